import PyProof.Rows.All
import Wide.All
import OpenK.AllK
import Wide.FinOn
import HandS.HeadHook2
import HandS.Walk
import HandS.ForMost
import HandS.Exc
import HandS.ExcOwn
import HandS.Deep
import HandS.Style
import HandS.IsInst
import HandS.TupAny
import HandS.TupMul
import HandS.Wide
import HandS.Zip
import HandS.Rev
import HandS.RevRange
import HandS.TryOnly
import HandS.Gcd
import HandS.Flow
import HandS.Base
import KE.KStateDown
import HandS.Call
import HandS.Ends
import HandS.More
import HandS.Words
import HandS.WordsExc
import HandS.Defaults
import HandS.Head0
import HandS.Head1
import HandS.Head2
import HandS.HeadEnd
import HandS.HeadHook1
import Lean
import PySem.Challenge.RW_blendhouse_k60_swaps_there_and_back
set_option Elab.async false
set_option linter.all false
section
set_option maxRecDepth 100000
namespace Pv
open PySem (Str)
inductive D where
  | non | bl (b : Bool) | int (i : Int) | str (s : Str)
  | tup (xs : List D) | lst (xs : List D)
  | dct (ks vs : List D) | set (xs : List D) | loc (n : Nat)
abbrev Sto := List D
abbrev En := List (Option D)
inductive Out (α : Type) where
  | ok (a : α) (s : Sto) | exc (c : Nat) (v : D) (s : Sto) | bad
@[inline] def Out.bind {α β : Type} (x : Out α) (f : α → Sto → Out β) : Out β :=
  match x with
  | .ok a s => f a s
  | .exc c v s => .exc c v s
  | .bad => .bad
inductive OutS where
  | nx (e : En) (s : Sto) | brk (e : En) (s : Sto) | cnt (e : En) (s : Sto)
  | ret (d : D) (s : Sto) | exc (c : Nat) (v : D) (e : En) (s : Sto) | bad
inductive Op where
  | add | sub | mul | fdiv | mod | pow
inductive Cp where
  | eq | ne | lt | le | gt | ge | isin | notin | is_ | isnot
inductive Ty where
  | int | bool | tuple | list | str | exc (c : Nat)
inductive BI where
  | len | abs | int | sum | min | max | all | any | tuple | list | sorted | gcd | comb
mutual
inductive CE where
  | var (i : Nat)
  | lit (d : D)
  | glo (x : Str) (d : D)
  | bin (o : Op) (a b : CE)
  | neg (a : CE)
  | cmp (o : Cp) (a b : CE)
  | chn (o p : Cp) (a b c : CE)
  | and (a b : CE) | or (a b : CE) | not (a : CE)
  | ite (c a b : CE)
  | tup (es : CEs) | lst (es : CEs)
  | idx (a i : CE)
  | slc (a : CE) (lo hi : CEs)
  | call (f : Nat) (es : CEs)
  | bi (b : BI) (es : CEs)
  | isi (a : CE) (t : Ty)
  | comp (own : List (Str × Nat)) (tg : Tg) (it : CI) (ifs : CEs) (elt : CE)
  | thaw (a : CE)
  | pop (o : CE) (es : CEs)
  | slr (a : CE)
  | thk
  | callL (f : Nat) (b : CE)
inductive CEs where
  | nil | cons (e : CE) (r : CEs)
inductive CI where
  | of (e : CE) | range (es : CEs) | zip (a b : CE) | enum (a : CE) | rev (a : CE) | revr (es : CEs)
inductive Tg where
  | nm (i : Nat) | tp (ts : Tgs) | sub (o i : CE)
inductive Tgs where
  | nil | cons (t : Tg) (r : Tgs)
end
mutual
inductive CS where
  | exp (e : CE) | asg (t : Tg) (e : CE) | aug (i : Nat) (o : Op) (e : CE)
  | ret (e : CE) | ret0 | ife (c : CE) (a b : CSs)
  | for_ (t : Tg) (it : CI) (b : CSs) | whl (c : CE) (b : CSs)
  | brk | cnt | pas | rais (c : Nat) (m : Str)
  | app (o e : CE) | ext (o e : CE) | retL (e : CE) | nev
inductive CSs where
  | nil | cons (s : CS) (r : CSs)
end
/-! ### values -/
mutual
def noloc : D → Bool
  | .loc _ => false
  | .tup xs => nolocs xs
  | .lst xs => nolocs xs
  | .set xs => nolocs xs
  | .dct ks vs => nolocs ks && nolocs vs
  | _ => true
def nolocs : List D → Bool
  | [] => true
  | d :: r => noloc d && nolocs r
end
mutual
def below (n : Nat) : D → Bool
  | .loc m => decide (m < n)
  | .tup xs => belows n xs
  | .lst xs => belows n xs
  | .set xs => belows n xs
  | .dct ks vs => belows n ks && belows n vs
  | _ => true
def belows (n : Nat) : List D → Bool
  | [] => true
  | d :: r => below n d && belows n r
end
mutual
def fzD (n : Nat) (g : Nat → D) : D → D
  | .loc m => if m < n then .loc m else g m
  | .tup xs => .tup (fzDs n g xs)
  | .lst xs => .lst (fzDs n g xs)
  | .set xs => .set (fzDs n g xs)
  | .dct ks vs => .dct (fzDs n g ks) (fzDs n g vs)
  | d => d
def fzDs (n : Nat) (g : Nat → D) : List D → List D
  | [] => []
  | d :: r => fzD n g d :: fzDs n g r
end
def fzL (st : Sto) (n : Nat) : Nat → Nat → D
  | 0, m => .loc m
  | k + 1, m => fzD n (fzL st n k) (st.getD m .non)
def fz (n : Nat) (st : Sto) (d : D) : D := fzD n (fzL st n st.length) d
def rd (st : Sto) : D → D
  | .loc n => st.getD n .non
  | d => d
mutual
def eqv : D → D → Bool
  | .non, .non => true
  | .bl a, .bl b => a == b
  | .bl a, .int j => (if a then 1 else 0) == j
  | .int i, .bl b => i == (if b then 1 else 0)
  | .int i, .int j => i == j
  | .str x, .str y => x == y
  | .lst xs, .lst ys => eqvs xs ys
  | .tup xs, .tup ys => eqvs xs ys
  | _, _ => false
def eqvs : List D → List D → Bool
  | [], [] => true
  | x :: xs, y :: ys => eqv x y && eqvs xs ys
  | _, _ => false
end
mutual
def plain : Nat → D → Bool
  | _, .non => true
  | _, .bl _ => true
  | _, .int _ => true
  | _, .str x => x.cps.all (· < 0x110000)
  | k, .tup xs => match k with
    | 0 => false
    | k + 1 => plains k xs
  | k, .lst xs => match k with
    | 0 => false
    | k + 1 => plains k xs
  | _, _ => false
def plains : Nat → List D → Bool
  | _, [] => true
  | k, x :: r => plain k x && plains k r
end
mutual
def same : D → D → Bool
  | .non, .non => true
  | .bl a, .bl b => a == b
  | .int i, .int j => decide (i = j)
  | .str x, .str y => decide (x = y)
  | .tup xs, .tup ys => sames xs ys
  | .lst xs, .lst ys => sames xs ys
  | .set xs, .set ys => sames xs ys
  | .dct ks vs, .dct ks' vs' => sames ks ks' && sames vs vs'
  | .loc n, .loc m => decide (n = m)
  | _, _ => false
def sames : List D → List D → Bool
  | [], [] => true
  | x :: xs, y :: ys => same x y && sames xs ys
  | _, _ => false
end
/-! ### operations -/
def big : Nat := 16777216
def lift (x : Option D) (s : Sto) : Out D :=
  match x with
  | some d => .ok d s
  | none => .bad
def mulOk (i j : Int) : Bool := decide (-(2 ^ 64) < i ∧ i < 2 ^ 64) || decide (-(2 ^ 64) < j ∧ j < 2 ^ 64) || decide (i.natAbs.log2 + j.natAbs.log2 + 2 ≤ 1000000)
def divOk (j : Int) : Bool := decide (j ≠ 0) && decide (j.natAbs.log2 < 9000)
def fdivZ (i j : Int) : Int := if 0 < j then i / j else i.fdiv j
def modZ (i j : Int) : Int := if 0 < j then i % j else i.fmod j
def repD (k : Int) (xs : List D) : List D := (List.replicate k.toNat xs).flatten
def binD : Op → D → D → Option D
  | .add, .int i, .int j => some (.int (i + j))
  | .add, .tup xs, .tup ys => if xs.length + ys.length ≤ big then some (.tup (xs ++ ys)) else none
  | .add, .lst xs, .lst ys => if xs.length + ys.length ≤ big then some (.lst (xs ++ ys)) else none
  | .add, .str x, .str y => if x.length + y.length ≤ big then some (.str (x ++ y)) else none
  | .sub, .int i, .int j => some (.int (i - j))
  | .mul, .int i, .int j => if mulOk i j then some (.int (i * j)) else none
  | .mul, .tup xs, .int k => if xs.length ≤ 1000 ∧ k ≤ 1000 ∧ 1 ≤ k then some (.tup (repD k xs)) else none
  | .mul, .lst xs, .int k => if -(2 ^ 62) ≤ k ∧ k < 2 ^ 62 ∧ xs.length * k.toNat ≤ big then some (.lst (repD k xs)) else none
  | .fdiv, .int i, .int j => if divOk j then some (.int (fdivZ i j)) else none
  | .mod, .int i, .int j => if j ≠ 0 then some (.int (modZ i j)) else none
  | .pow, .int i, .int j => if 0 ≤ j ∧ j ≤ 1000000 ∧ i.natAbs < 2 ^ 64 then some (.int (i ^ j.toNat)) else none
  | _, _, _ => none
def intsD : List D → Option (List Int)
  | [] => some []
  | .int i :: r => (intsD r).map (i :: ·)
  | _ :: _ => none
def blsD : List D → Option (List Bool)
  | [] => some []
  | .bl i :: r => (blsD r).map (i :: ·)
  | _ :: _ => none
def lexLt : List Int → List Int → Bool
  | [], [] => false
  | [], _ :: _ => true
  | _ :: _, [] => false
  | a :: r, b :: t => if a = b then lexLt r t else decide (a < b)
def ltD : D → D → Option Bool
  | .int i, .int j => some (decide (i < j))
  | .str x, .str y => some (decide (x.cps.toList < y.cps.toList))
  | .tup xs, .tup ys => match intsD xs, intsD ys with
    | some ns, some ms => some (lexLt ns ms)
    | _, _ => none
  | _, _ => none
def eqD (a b : D) : Option Bool := if plain 60 a && plain 60 b then some (eqv a b) else none
def memD (a : D) : List D → Bool
  | [] => false
  | b :: r => eqv b a || memD a r
def inD (a b : D) : Option Bool :=
  match b with
  | .tup xs => if plain 60 a && plains 60 xs then some (memD a xs) else none
  | .lst xs => if plain 60 a && plains 60 xs then some (memD a xs) else none
  | _ => none
def isD : D → D → Option Bool
  | .non, .non => some true
  | .bl _, .non | .int _, .non | .str _, .non | .tup _, .non | .lst _, .non | .loc _, .non => some false
  | .bl a, .bl b => some (decide (a = b))
  | _, _ => none
def cmpD (o : Cp) (a b : D) : Option D :=
  match o with
  | .eq => (eqD a b).map .bl
  | .ne => (eqD a b).map fun k => .bl (!k)
  | .lt => (ltD a b).map .bl
  | .gt => match a, b with
    | .int i, .int j => some (.bl (decide (j < i)))
    | _, _ => none
  | .le => match a, b with
    | .int i, .int j => some (.bl (decide (i ≤ j)))
    | _, _ => none
  | .ge => match a, b with
    | .int i, .int j => some (.bl (decide (j ≤ i)))
    | _, _ => none
  | .isin => (inD a b).map .bl
  | .notin => (inD a b).map fun k => .bl (!k)
  | .is_ => (isD a b).map .bl
  | .isnot => (isD a b).map fun k => .bl (!k)
def atD (xs : List D) (i : Int) : Option D := if 0 ≤ i then xs[i.toNat]? else if -(xs.length : Int) ≤ i then xs[(i + xs.length).toNat]? else none
def idxD : D → D → Option D
  | .tup xs, .int i => atD xs i
  | .lst xs, .int i => atD xs i
  | .str z, .int i => if 0 ≤ i ∧ z.length ≤ big then (z.cps.toList[i.toNat]?).map fun c => .str ⟨#[c]⟩ else none
  | _, _ => none
def cutAt (n d : Nat) : Option Int → Nat
  | none => d
  | some i => if i < 0 then (i + n).toNat else min i.toNat n
def cutD (xs : List D) (lo hi : Option Int) : List D := (xs.drop (cutAt xs.length 0 lo)).take (cutAt xs.length xs.length hi - cutAt xs.length 0 lo)
def optI : List D → Option (Option Int)
  | [] => some none
  | [.int i] => some (some i)
  | _ => none
def slcD (a : D) (lo hi : Option Int) : Option D :=
  match a with
  | .tup xs => some (.tup (cutD xs lo hi))
  | .lst xs => some (.lst (cutD xs lo hi))
  | _ => none
def revD : D → Option D
  | .tup xs => some (.tup xs.reverse)
  | .lst xs => some (.lst xs.reverse)
  | _ => none
def negD : D → Option D
  | .int i => some (.int (-i))
  | _ => none
def minZ : Int → List Int → Int
  | m, [] => m
  | m, x :: r => minZ (if x < m then x else m) r
def maxZ : Int → List Int → Int
  | m, [] => m
  | m, x :: r => maxZ (if x > m then x else m) r
def seqD : D → Option (List D)
  | .tup xs => some xs
  | .lst xs => some xs
  | _ => none
def biD : BI → List D → Option D
  | .len, [.tup xs] => some (.int xs.length)
  | .len, [.lst xs] => some (.int xs.length)
  | .len, [.str x] => if x.length ≤ big then some (.int x.length) else none
  | .abs, [.int i] => some (.int (if i < 0 then -i else i))
  | .int, [.int i] => some (.int i)
  | .int, [.bl b] => some (.int (if b then 1 else 0))
  | .sum, [a] => match seqD a with
    | some xs => (intsD xs).map fun ns => .int ns.sum
    | none => none
  | .min, [.int i, .int j] => some (.int (if j < i then j else i))
  | .max, [.int i, .int j] => some (.int (if j > i then j else i))
  | .min, [a] => match seqD a with
    | some xs => match intsD xs with
      | some (m :: r) => some (.int (minZ m r))
      | _ => none
    | none => none
  | .max, [a] => match seqD a with
    | some xs => match intsD xs with
      | some (m :: r) => some (.int (maxZ m r))
      | _ => none
    | none => none
  | .all, [.lst xs] => (blsD xs).map fun bs => .bl (bs.all id)
  | .any, [.lst xs] => (blsD xs).map fun bs => .bl (bs.any id)
  | .tuple, [a] => (seqD a).map .tup
  | .list, [a] => (seqD a).map .lst
  | .gcd, [.int i, .int j] => some (.int (Int.gcd i j))
  | _, _ => none
def isiD : Ty → D → Option Bool
  | .exc _, _ => none
  | .int, .int _ => some true
  | .int, .bl _ => some true
  | .bool, .bl _ => some true
  | .tuple, .tup _ => some true
  | .list, .lst _ => some true
  | .str, .str _ => some true
  | _, .dct _ _ => none
  | _, .set _ => none
  | _, .loc _ => none
  | _, _ => some false
/-! ### loops -/
def rangeD (lo : Int) (n : Nat) (st : Int) : List D := (List.range n).map fun (k : Nat) => .int (lo + (k : Int) * st)
def inR (i : Int) : Bool := decide (-(2 ^ 62) ≤ i ∧ i < 2 ^ 62)
def rngD : List D → Option (List D)
  | [.int j] => if inR j then some (rangeD 0 j.toNat 1) else none
  | [.int i, .int j] => if inR i && inR j then some (rangeD i (j - i).toNat 1) else none
  | [.int i, .int j, .int c] => if inR i && inR j && decide (c = -1) then some (rangeD i (i - j).toNat (-1)) else none
  | _ => none
def rrngD : List D → Option (List D)
  | [.int j] => if inR j then some (rangeD (((j.toNat : Nat) : Int) - 1) j.toNat (-1)) else none
  | [.int i, .int j] => if inR i && inR j then some (rangeD (i + (((j - i).toNat : Nat) : Int) - 1) (j - i).toNat (-1)) else none
  | _ => none
abbrev Gd := List (Nat × List D)
def gok (s : Sto) : Gd → Bool
  | [] => true
  | (n, xs) :: r => same (s.getD n .non) (.lst xs) && gok s r
def walkD (s : Sto) : D → Option (List D × Gd)
  | .tup xs => some (xs, [])
  | .lst xs => some (xs, [])
  | .loc n => match s.getD n .non with
    | .lst xs => some (xs, [(n, xs)])
    | _ => none
  | .str z => some (z.cps.toList.map fun c => .str ⟨#[c]⟩, [])
  | _ => none
def walkQ (s : Sto) : D → Option (Bool × List D × Gd)
  | .tup xs => some (true, xs, [])
  | .lst xs => some (false, xs, [])
  | .loc n => match s.getD n .non with
    | .lst xs => some (false, xs, [(n, xs)])
    | _ => none
  | _ => none
def zipD : List D → List D → List D
  | x :: xs, y :: ys => .tup [x, y] :: zipD xs ys
  | _, _ => []
def enumD : Nat → List D → List D
  | _, [] => []
  | k, x :: xs => .tup [.int k, x] :: enumD (k + 1) xs
def wipeE (e : En) : List (Str × Nat) → En
  | [] => e
  | v :: vs => (wipeE e vs).set v.2 none
def noExc {α : Type} : Out α → Out α
  | .ok a s => .ok a s
  | _ => .bad
def loopC (body : D → Sto → Out (Option D)) (g : Gd) : List D → Sto → Out (List D)
  | [], s => if gok s g then .ok [] s else .bad
  | d :: r, s => if gok s g then (body d s).bind fun y s1 => (loopC body g r s1).bind fun ys s2 => .ok (match y with
      | some y => y :: ys
      | none => ys) s2
    else .bad
def loopS (body : D → En → Sto → OutS) (g : Gd) : List D → En → Sto → OutS
  | [], e, s => if gok s g then .nx e s else .bad
  | d :: r, e, s => if gok s g then match body d e s with
      | .nx e1 s1 => loopS body g r e1 s1
      | .cnt e1 s1 => loopS body g r e1 s1
      | .brk e1 s1 => .nx e1 s1
      | x => x
    else .bad
def loopW (t : En → Sto → Out Bool) (body : En → Sto → OutS) : Nat → En → Sto → OutS
  | 0, _, _ => .bad
  | n + 1, e, s => match t e s with
    | .ok true s1 => match body e s1 with
      | .nx e2 s2 => loopW t body n e2 s2
      | .cnt e2 s2 => loopW t body n e2 s2
      | .brk e2 s2 => .nx e2 s2
      | x => x
    | .ok false s1 => .nx e s1
    | .exc c v s1 => .exc c v e s1
    | .bad => .bad
def fuelW : Nat := 1000000000000
def putC (n : Nat) (c : D) (s : Sto) : Out Unit := if decide (n < s.length) && below n c then .ok () (s.set n c) else .bad
def setAt (xs : List D) (i : Int) (d : D) : Option (List D) :=
  if 0 ≤ i ∧ i < xs.length then some (xs.set i.toNat d) else if i < 0 ∧ -(xs.length : Int) ≤ i then some (xs.set (i + xs.length).toNat d) else none
def setC (n : Nat) (k : Int) (d : D) (s : Sto) : Out Unit :=
  match s.getD n .non with
  | .lst xs => match setAt xs k d with
    | some ys => putC n (.lst ys) s
    | none => .bad
  | _ => .bad
def appC (n : Nat) (d : D) (s : Sto) : Out Unit :=
  match s.getD n .non with
  | .lst xs => if xs.length < big then putC n (.lst (xs ++ [d])) s else .bad
  | _ => .bad
def extC (n : Nat) (ys : List D) (s : Sto) : Out Unit :=
  match s.getD n .non with
  | .lst xs => if xs.length + ys.length ≤ big then putC n (.lst (xs ++ ys)) s else .bad
  | _ => .bad
def popC (n : Nat) (l : List D) (s : Sto) : Out D :=
  match s.getD n .non with
  | .lst xs => match l with
    | [] => match xs[xs.length - 1]? with
      | some d => (putC n (.lst xs.dropLast) s).bind fun _ s => .ok d s
      | none => .bad
    | [.int i] => if 0 ≤ i then match xs[i.toNat]? with
        | some d => (putC n (.lst (xs.eraseIdx i.toNat)) s).bind fun _ s => .ok d s
        | none => .bad
      else .bad
    | _ => .bad
  | _ => .bad
def onLoc {α : Type} (x : D) (f : Nat → Out α) : Out α :=
  match x with
  | .loc n => f n
  | _ => .bad
def truth (x : D) (s : Sto) : Out Bool :=
  match x with
  | .bl b => .ok b s
  | _ => .bad
def toS (x : Out En) (e : En) : OutS :=
  match x with
  | .ok e1 s => .nx e1 s
  | .exc c v s => .exc c v e s
  | .bad => .bad
def thenS {α : Type} (x : Out α) (e : En) (f : α → Sto → OutS) : OutS :=
  match x with
  | .ok a s => f a s
  | .exc c v s => .exc c v e s
  | .bad => .bad
structure Cl where
  fn : Nat → (Sto → Out D) → List D → Sto → Out D
  th : Sto → Out D
mutual
def evE (c : Cl) : CE → En → Sto → Out D
  | .var i, e, s => match e[i]? with
    | some (some d) => .ok d s
    | _ => .bad
  | .lit d, _, s => .ok d s
  | .glo _ d, _, s => .ok d s
  | .bin o a b, e, s => (evE c a e s).bind fun x s => (evE c b e s).bind fun y s => lift (binD o (rd s x) (rd s y)) s
  | .neg a, e, s => (evE c a e s).bind fun x s => lift (negD x) s
  | .cmp o a b, e, s => (evE c a e s).bind fun x s => (evE c b e s).bind fun y s => lift (cmpD o (fz 0 s x) (fz 0 s y)) s
  | .chn o p a b d, e, s => (evE c a e s).bind fun x s => (evE c b e s).bind fun y s => (lift (cmpD o (fz 0 s x) (fz 0 s y)) s).bind fun z s => (truth z s).bind fun k s =>
      if k = true then (evE c d e s).bind fun u s => lift (cmpD p (fz 0 s y) (fz 0 s u)) s else .ok (.bl false) s
  | .and a b, e, s => (evE c a e s).bind fun x s => (truth x s).bind fun k s => if k = true then evE c b e s else .ok (.bl false) s
  | .or a b, e, s => (evE c a e s).bind fun x s => (truth x s).bind fun k s => if k = true then .ok (.bl true) s else evE c b e s
  | .not a, e, s => (evE c a e s).bind fun x s => (truth x s).bind fun k s => .ok (.bl (!k)) s
  | .ite t a b, e, s => (evE c t e s).bind fun x s => (truth x s).bind fun k s => if k = true then evE c a e s else evE c b e s
  | .tup es, e, s => (evEs c es e s).bind fun xs s => .ok (.tup xs) s
  | .lst es, e, s => (evEs c es e s).bind fun xs s => .ok (.lst xs) s
  | .idx a i, e, s => (evE c a e s).bind fun x s => (evE c i e s).bind fun y s => lift (idxD (rd s x) y) s
  | .slc a lo hi, e, s => (evE c a e s).bind fun x s => (evEs c lo e s).bind fun l s => match optI l with
    | some l => (evEs c hi e s).bind fun h s => match optI h with
      | some h => lift (slcD (rd s x) l h) s
      | none => .bad
    | none => .bad
  | .slr a, e, s => (evE c a e s).bind fun x s => lift (revD (rd s x)) s
  | .call f es, e, s => (evEs c es e s).bind fun xs s => c.fn f (fun _ => .bad) xs s
  | .callL f b, e, s => c.fn f (fun s => evE c b e s) [] s
  | .thk, _, s => c.th s
  | .bi b es, e, s => (evEs c es e s).bind fun xs s => lift (biD b (xs.map (rd s))) s
  | .isi a t, e, s => (evE c a e s).bind fun x s => lift ((isiD t (rd s x)).map .bl) s
  | .comp own tg it ifs elt, e, s => (evI c it e s).bind fun w s => (noExc (loopC (fun d s => (evT c tg d (wipeE e own) s).bind fun e1 s => (evIf c ifs e1 s).bind fun k s =>
      if k = true then (evE c elt e1 s).bind fun y s => .ok (some y) s else .ok none s) w.2 w.1 s)).bind fun ys s => if ys.length ≤ big then .ok (.lst ys) s else .bad
  | .thaw a, e, s => (evE c a e s).bind fun x s => match x with
    | .lst xs => if belows s.length xs then .ok (.loc s.length) (s ++ [.lst xs]) else .bad
    | _ => .bad
  | .pop o es, e, s => (evE c o e s).bind fun x s => onLoc x fun n => (evEs c es e s).bind fun l s => popC n l s
def evEs (c : Cl) : CEs → En → Sto → Out (List D)
  | .nil, _, s => .ok [] s
  | .cons a r, e, s => (evE c a e s).bind fun x s => (evEs c r e s).bind fun xs s => .ok (x :: xs) s
def evIf (c : Cl) : CEs → En → Sto → Out Bool
  | .nil, _, s => .ok true s
  | .cons a r, e, s => (evE c a e s).bind fun x s => (truth x s).bind fun k s => if k = true then evIf c r e s else .ok false s
def evI (c : Cl) : CI → En → Sto → Out (List D × Gd)
  | .of a, e, s => (evE c a e s).bind fun x s => match walkD s x with
    | some w => .ok w s
    | none => .bad
  | .range es, e, s => (evEs c es e s).bind fun xs s => match rngD xs with
    | some l => .ok (l, []) s
    | none => .bad
  | .revr es, e, s => (evEs c es e s).bind fun xs s => match rrngD xs with
    | some l => .ok (l, []) s
    | none => .bad
  | .zip a b, e, s => (evE c a e s).bind fun x s => (evE c b e s).bind fun y s => match walkQ s x, walkQ s y with
    | some (k, xs, g), some (m, ys, h) => if k = m then .ok (zipD xs ys, g ++ h) s else .bad
    | _, _ => .bad
  | .enum a, e, s => (evE c a e s).bind fun x s => match walkQ s x with
    | some (false, xs, g) => .ok (enumD 0 xs, g) s
    | _ => .bad
  | .rev a, e, s => (evE c a e s).bind fun x s => match walkQ s x with
    | some (_, xs, g) => .ok (xs.reverse, g) s
    | none => .bad
def evT (c : Cl) : Tg → D → En → Sto → Out En
  | .nm i, d, e, s => .ok (e.set i (some d)) s
  | .tp ts, d, e, s => match rd s d with
    | .tup xs => evTs c ts xs e s
    | .lst xs => evTs c ts xs e s
    | _ => .bad
  | .sub o i, d, e, s => (noExc (evE c o e s)).bind fun x s => onLoc x fun n => (noExc (evE c i e s)).bind fun y s => match y with
    | .int k => (setC n k d s).bind fun _ s => .ok e s
    | _ => .bad
def evTs (c : Cl) : Tgs → List D → En → Sto → Out En
  | .nil, [], e, s => .ok e s
  | .cons t r, d :: ds, e, s => (evT c t d e s).bind fun e1 s => evTs c r ds e1 s
  | _, _, _, _ => .bad
end
mutual
def evS (c : Cl) : CS → En → Sto → OutS
  | .exp a, e, s => toS ((evE c a e s).bind fun _ s => .ok e s) e
  | .asg t a, e, s => toS ((evE c a e s).bind fun d s => evT c t d e s) e
  | .aug i o a, e, s => toS ((evE c (.var i) e s).bind fun x s => (evE c a e s).bind fun y s => match x, y with
    | .int m, .int n => .ok (e.set i (some (.int (match o with
      | .add => m + n
      | _ => m - n)))) s
    | _, _ => .bad) e
  | .ret a, e, s => thenS (evE c a e s) e fun d s1 => .ret d s1
  | .ret0, _, s => .ret .non s
  | .retL a, e, s => thenS (evE c a e s) e fun d s1 => match d with
    | .loc n => .ret (.loc n) s1
    | _ => .bad
  | .nev, _, _ => .bad
  | .ife t a b, e, s => thenS ((evE c t e s).bind truth) e fun k s1 => if k = true then evSs c a e s1 else evSs c b e s1
  | .for_ t it b, e, s => thenS (evI c it e s) e fun w s1 => loopS (fun d e s => thenS (evT c t d e s) e fun e1 s1 => evSs c b e1 s1) w.2 w.1 e s1
  | .whl t b, e, s => loopW (fun e s => (evE c t e s).bind truth) (fun e s => evSs c b e s) fuelW e s
  | .brk, e, s => .brk e s
  | .cnt, e, s => .cnt e s
  | .pas, e, s => .nx e s
  | .rais k _, e, s => .exc k .non e s
  | .app o a, e, s => toS ((evE c o e s).bind fun x s => onLoc x fun n => (evE c a e s).bind fun y s => (appC n y s).bind fun _ s => .ok e s) e
  | .ext o a, e, s => toS ((evE c o e s).bind fun x s => onLoc x fun n => (evE c a e s).bind fun y s => match rd s y with
    | .lst ys => (extC n ys s).bind fun _ s => .ok e s
    | _ => .bad) e
def evSs (c : Cl) : CSs → En → Sto → OutS
  | .nil, e, s => .nx e s
  | .cons a r, e, s => match evS c a e s with
    | .nx e1 s1 => evSs c r e1 s1
    | x => x
end
structure FD where
  np : Nat
  nl : Nat
  fr : Bool
  body : CSs
def lowLoc (n : Nat) : D → Bool
  | .loc m => decide (m < n)
  | _ => false
def leave (n : Nat) (d : D) (s : Sto) : Out D := .ok (fz n s d) (s.take n)
def runF (c : Cl) (f : FD) (args : List D) (s : Sto) : Out D :=
  if args.length = f.np then match evSs c f.body (args.map some ++ List.replicate (f.nl - f.np) none) s with
    | .nx _ s1 => leave s.length .non s1
    | .ret d s1 => if f.fr && lowLoc s.length d then .bad else leave s.length d s1
    | .exc k v _ s1 => .exc k v (s1.take s.length)
    | _ => .bad
  else .bad
def callN (fs : List FD) : Nat → Nat → (Sto → Out D) → List D → Sto → Out D
  | 0, _, _, _, _ => .bad
  | n + 1, f, th, args, s => match fs[f]? with
    | some fd => runF ⟨callN fs n, th⟩ fd args s
    | none => .bad
end Pv
end
section
set_option maxRecDepth 100000
namespace Pv
open PySem PySem.Spec PyProof.Rows L2
/-! ### how the values stand in the abstract heap -/
/-- rho: where the cells stand; av: lists that nothing else names -/
structure Wd where
  rho : List Addr
  av : List Addr
def Wd.avo (W : Wd) (p : Addr) : Wd := ⟨W.rho, p :: W.av⟩
def KL (K : PySem.W.Frag) (a : Addr) (xs : List V) : Prop :=
  ∃ (o : Obj) (its : Array Value) (n : Nat), K.lookup a = some o ∧ o.cls = .type "list" ∧ o.dict = none ∧ o.data = .seq its n ∧ its.size ≤ sizeLine ∧ Vals xs its.toList
def LstAt (K : PySem.W.Frag) (W : Wd) (H : Hp) (a : Addr) (xs : List V) : Prop :=
  (H a = some (.lst xs) ∧ a ∉ W.rho ∧ a ∉ W.av) ∨ (∃ o, H a = some (.frz o (.lst xs))) ∨ KL K a xs
theorem LstAt.sq {K : PySem.W.Frag} {W : Wd} {H : Hp} {a : Addr} {xs : List V} (h : LstAt K W H a xs) : SqL K H a xs := by
  rcases h with h | h | h
  · exact .inl (.inl h.1)
  · exact .inl (.inr h)
  · exact .inr h
mutual
def Rep (K : PySem.W.Frag) (W : Wd) (H : Hp) : D → V → Prop
  | .non, v => v = .non
  | .bl b, v => v = .bl b
  | .int i, v => v = .int i
  | .str z, v => v = .str z
  | .tup ds, v => ∃ a vs, v = .ref a ∧ SqT K H a vs ∧ Reps K W H ds vs
  | .lst ds, v => ∃ a vs, v = .ref a ∧ LstAt K W H a vs ∧ Reps K W H ds vs
  | .loc n, v => ∃ a, v = .ref a ∧ W.rho[n]? = some a
  | .dct _ _, _ => False
  | .set _, _ => False
def Reps (K : PySem.W.Frag) (W : Wd) (H : Hp) : List D → List V → Prop
  | [], vs => vs = []
  | d :: ds, vs => ∃ v r, vs = v :: r ∧ Rep K W H d v ∧ Reps K W H ds r
end
/-- what stays from one state to a later one -/
structure Pres (W : Wd) (H : Hp) (W' : Wd) (H' : Hp) : Prop where
  av : W'.av = W.av
  ext : ∃ l, W'.rho = W.rho ++ l ∧ ∀ a ∈ l, H a = none
  keep : ∀ a o, H a = some o → (Mut (some o) → a ∉ W.rho) → (∀ ps, o ≠ .tbl ps) → H' a = some o
  dom : ∀ a, H a ≠ none → H' a ≠ none
structure RelSt (K : PySem.W.Frag) (W : Wd) (s : Sto) (H : Hp) : Prop where
  len : W.rho.length = s.length
  nd : W.rho.Nodup
  avd : ∀ a ∈ W.av, H a ≠ none ∧ a ∉ W.rho
  cell : ∀ (n : Nat) (a : Addr), W.rho[n]? = some a → ∃ ds vs, s[n]? = some (.lst ds) ∧ H a = some (.lst vs) ∧ Reps K W H ds vs ∧ belows n ds = true
def RelEn (K : PySem.W.Frag) (W : Wd) (H : Hp) (e : En) (σ : L2.St) : Prop :=
  e.length = σ.length ∧ ∀ (i : Nat) (d : D), e[i]? = some (some d) → ∃ v, σ[i]? = some (some v) ∧ Rep K W H d v
section
variable {K : PySem.W.Frag} {W W' W1 : Wd} {H H' H1 : Hp} {s s' : Sto}
theorem Pres.refl : Pres W H W H := ⟨rfl, ⟨[], by simp, by simp⟩, fun _ _ h _ _ => h, fun _ h => h⟩
theorem Pres.trans (a : Pres W H W1 H1) (b : Pres W1 H1 W' H') : Pres W H W' H' := by
  obtain ⟨v1, ⟨l1, e1, n1⟩, k1, d1⟩ := a
  obtain ⟨v2, ⟨l2, e2, n2⟩, k2, d2⟩ := b
  refine ⟨v2.trans v1, ⟨l1 ++ l2, by rw [e2, e1, List.append_assoc], fun a ha => ?_⟩, fun a o h hm ht => ?_, fun a h => d2 a (d1 a h)⟩
  · rcases List.mem_append.mp ha with ha | ha
    · exact n1 a ha
    · have z := n2 a ha
      cases q : H a with
      | none => rfl
      | some o => exact absurd z (d1 a (by rw [q]; simp))
  · refine k2 a o (k1 a o h hm ht) (fun m hin => ?_) ht
    rw [e1] at hin
    rcases List.mem_append.mp hin with hin | hin
    · exact hm m hin
    · rw [n1 a hin] at h; cases h
/-- a new object -/
theorem Pres.new {p : Addr} {o : HO} (h : H p = none) : Pres W H W (upd H p o) := by
  refine ⟨rfl, ⟨[], by simp, by simp⟩, fun a u e _ _ => ?_, fun a e => ?_⟩
  · rw [upd_ne (ne_of_none e h)]; exact e
  · by_cases q : a = p
    · subst q; exact absurd h e
    · rw [upd_ne q]; exact e
theorem SqT.pres {a : Addr} {xs : List V} (p : Pres W H W' H') (h : SqT K H a xs) : SqT K H' a xs := by
  rcases h with (h | ⟨o, h⟩) | h
  · exact .inl (.inl (p.keep _ _ h (fun m => m.elim) (fun _ z => nomatch z)))
  · exact .inl (.inr ⟨o, p.keep _ _ h (fun m => m.elim) (fun _ z => nomatch z)⟩)
  · exact .inr h
theorem LstAt.pres {a : Addr} {xs : List V} (p : Pres W H W' H') (h : LstAt K W H a xs) : LstAt K W' H' a xs := by
  rcases h with ⟨h, n, m⟩ | ⟨o, h⟩ | h
  · refine .inl ⟨p.keep _ _ h (fun _ => n) (fun _ z => nomatch z), fun hin => ?_, by rw [p.av]; exact m⟩
    obtain ⟨l, e, q⟩ := p.ext
    rw [e] at hin
    rcases List.mem_append.mp hin with z | z
    · exact n z
    · rw [q a z] at h; cases h
  · exact .inr (.inl ⟨o, p.keep _ _ h (fun m => m.elim) (fun _ z => nomatch z)⟩)
  · exact .inr (.inr h)
theorem ext_get {n : Nat} {a : Addr} (p : Pres W H W' H') (h : W.rho[n]? = some a) : W'.rho[n]? = some a := by
  obtain ⟨l, e, _⟩ := p.ext
  rw [e, List.getElem?_append_left (List.getElem?_eq_some_iff.mp h).1]
  exact h
/-- values by what is known of tuples, lists and cells -/
structure Keeps (K : PySem.W.Frag) (W : Wd) (H : Hp) (W' : Wd) (H' : Hp) (b : Nat) : Prop where
  tup : ∀ a xs, SqT K H a xs → SqT K H' a xs
  lst : ∀ a xs, LstAt K W H a xs → LstAt K W' H' a xs
  loc : ∀ (n : Nat) (a : Addr), n < b → W.rho[n]? = some a → W'.rho[n]? = some a
mutual
theorem Rep.by {b : Nat} (k : Keeps K W H W' H' b) : ∀ (d : D) {v : V}, below b d = true → Rep K W H d v → Rep K W' H' d v
  | .non, _, _, h => by simpa [Rep] using h
  | .bl _, _, _, h => by simpa [Rep] using h
  | .int _, _, _, h => by simpa [Rep] using h
  | .str _, _, _, h => by simpa [Rep] using h
  | .tup ds, _, w, h => by
    simp only [below] at w
    simp only [Rep] at h ⊢
    obtain ⟨a, vs, e, q, r⟩ := h
    exact ⟨a, vs, e, k.tup _ _ q, Reps.by k ds w r⟩
  | .lst ds, _, w, h => by
    simp only [below] at w
    simp only [Rep] at h ⊢
    obtain ⟨a, vs, e, q, r⟩ := h
    exact ⟨a, vs, e, k.lst _ _ q, Reps.by k ds w r⟩
  | .loc n, _, w, h => by
    simp only [below, decide_eq_true_eq] at w
    simp only [Rep] at h ⊢
    obtain ⟨a, e, q⟩ := h
    exact ⟨a, e, k.loc n a w q⟩
  | .dct _ _, _, _, h => by simp only [Rep] at h
  | .set _, _, _, h => by simp only [Rep] at h
theorem Reps.by {b : Nat} (k : Keeps K W H W' H' b) : ∀ (ds : List D) {vs : List V}, belows b ds = true → Reps K W H ds vs → Reps K W' H' ds vs
  | [], _, _, h => by simpa [Reps] using h
  | d :: ds, _, w, h => by
    simp only [belows, Bool.and_eq_true] at w
    simp only [Reps] at h ⊢
    obtain ⟨v, r, e, h1, h2⟩ := h
    exact ⟨v, r, e, Rep.by k d w.1 h1, Reps.by k ds w.2 h2⟩
end
mutual
theorem rep_below : ∀ (d : D) {v : V}, Rep K W H d v → below W.rho.length d = true
  | .non, _, _ => rfl
  | .bl _, _, _ => rfl
  | .int _, _, _ => rfl
  | .str _, _, _ => rfl
  | .tup ds, _, h => by simp only [Rep] at h; obtain ⟨a, vs, e, t, r⟩ := h; simp only [below]; exact reps_below ds r
  | .lst ds, _, h => by simp only [Rep] at h; obtain ⟨a, vs, e, t, r⟩ := h; simp only [below]; exact reps_below ds r
  | .loc n, _, h => by simp only [Rep] at h; obtain ⟨a, e, t⟩ := h; simp only [below, decide_eq_true_eq]; exact (List.getElem?_eq_some_iff.mp t).1
  | .dct _ _, _, h => by simp only [Rep] at h
  | .set _, _, h => by simp only [Rep] at h
theorem reps_below : ∀ (ds : List D) {vs : List V}, Reps K W H ds vs → belows W.rho.length ds = true
  | [], _, _ => rfl
  | d :: ds, _, h => by
    simp only [Reps] at h
    obtain ⟨v, r, e, h1, h2⟩ := h
    simp only [belows, Bool.and_eq_true]
    exact ⟨rep_below d h1, reps_below ds h2⟩
end
theorem Pres.keeps (p : Pres W H W' H') (b : Nat) : Keeps K W H W' H' b := ⟨fun _ _ => SqT.pres p, fun _ _ => LstAt.pres p, fun _ _ _ => ext_get p⟩
theorem Rep.pres (p : Pres W H W' H') {d : D} {v : V} (h : Rep K W H d v) : Rep K W' H' d v := Rep.by (p.keeps _) d (rep_below d h) h
theorem Reps.pres (p : Pres W H W' H') {ds : List D} {vs : List V} (h : Reps K W H ds vs) : Reps K W' H' ds vs := Reps.by (p.keeps _) ds (reps_below ds h) h
theorem RelEn.pres {e : En} {σ : L2.St} (p : Pres W H W' H') (h : RelEn K W H e σ) : RelEn K W' H' e σ :=
  ⟨h.1, fun i d q => let ⟨v, a, b⟩ := h.2 i d q; ⟨v, a, Rep.pres p b⟩⟩
theorem Reps.length : ∀ {ds : List D} {vs : List V}, Reps K W H ds vs → ds.length = vs.length
  | [], _, h => by simp only [Reps] at h; subst h; rfl
  | d :: ds, _, h => by
    simp only [Reps] at h
    obtain ⟨v, r, e, _, h2⟩ := h
    subst e
    simp [Reps.length h2]
theorem Reps.get : ∀ {ds : List D} {vs : List V} {i : Nat} {d : D}, Reps K W H ds vs → ds[i]? = some d → ∃ v, vs[i]? = some v ∧ Rep K W H d v
  | [], _, _, _, _, e => by simp at e
  | d :: ds, _, i, x, h, e => by
    simp only [Reps] at h
    obtain ⟨v, r, e1, h1, h2⟩ := h
    subst e1
    cases i with
    | zero => simp at e; subst e; exact ⟨v, rfl, h1⟩
    | succ i => simpa using Reps.get h2 (by simpa using e)
theorem Reps.append : ∀ {ds es : List D} {vs ws : List V}, Reps K W H ds vs → Reps K W H es ws → Reps K W H (ds ++ es) (vs ++ ws)
  | [], _, _, _, h, g => by simp only [Reps] at h; subst h; exact g
  | d :: ds, _, _, _, h, g => by
    simp only [Reps] at h
    obtain ⟨v, r, e1, h1, h2⟩ := h
    subst e1
    exact ⟨v, _, rfl, h1, Reps.append h2 g⟩
theorem Reps.take : ∀ {ds : List D} {vs : List V} (n : Nat), Reps K W H ds vs → Reps K W H (ds.take n) (vs.take n)
  | _, _, 0, _ => by simp [Reps]
  | [], _, _ + 1, h => by simp only [Reps] at h; subst h; simp [Reps]
  | d :: ds, _, n + 1, h => by
    simp only [Reps] at h
    obtain ⟨v, r, e1, h1, h2⟩ := h
    subst e1
    exact ⟨v, _, rfl, h1, Reps.take n h2⟩
theorem Reps.drop : ∀ {ds : List D} {vs : List V} (n : Nat), Reps K W H ds vs → Reps K W H (ds.drop n) (vs.drop n)
  | _, _, 0, h => h
  | [], _, _ + 1, h => by simp only [Reps] at h; subst h; simp [Reps]
  | d :: ds, _, n + 1, h => by
    simp only [Reps] at h
    obtain ⟨v, r, e1, h1, h2⟩ := h
    subst e1
    exact Reps.drop n h2
theorem Reps.set {d : D} {v : V} (hd : Rep K W H d v) : ∀ {ds : List D} {vs : List V} (n : Nat), Reps K W H ds vs → Reps K W H (ds.set n d) (vs.set n v)
  | [], _, _, h => by simp only [Reps] at h; subst h; simp [Reps]
  | x :: ds, _, n, h => by
    simp only [Reps] at h
    obtain ⟨w, r, e1, h1, h2⟩ := h
    subst e1
    cases n with
    | zero => exact ⟨v, _, rfl, hd, h2⟩
    | succ n => exact ⟨w, _, rfl, h1, Reps.set hd n h2⟩
theorem Reps.one {d : D} {v : V} (hd : Rep K W H d v) : Reps K W H [d] [v] := ⟨v, [], rfl, hd, rfl⟩
theorem Reps.reverse : ∀ {ds : List D} {vs : List V}, Reps K W H ds vs → Reps K W H ds.reverse vs.reverse
  | [], _, h => by simp only [Reps] at h; subst h; simp [Reps]
  | d :: ds, _, h => by
    simp only [Reps] at h
    obtain ⟨v, r, e1, h1, h2⟩ := h
    subst e1
    rw [List.reverse_cons, List.reverse_cons]
    exact Reps.append (Reps.reverse h2) (Reps.one h1)
theorem Reps.eraseIdx : ∀ {ds : List D} {vs : List V} (n : Nat), Reps K W H ds vs → Reps K W H (ds.eraseIdx n) (vs.eraseIdx n)
  | [], _, _, h => by simp only [Reps] at h; subst h; simp [Reps]
  | d :: ds, _, n, h => by
    simp only [Reps] at h
    obtain ⟨v, r, e1, h1, h2⟩ := h
    subst e1
    cases n with
    | zero => exact h2
    | succ n => exact ⟨v, _, rfl, h1, Reps.eraseIdx n h2⟩
/-! ### cells left behind -/
mutual
theorem below_mono {n m : Nat} (h : n ≤ m) : ∀ d : D, below n d = true → below m d = true
  | .non, _ => rfl
  | .bl _, _ => rfl
  | .int _, _ => rfl
  | .str _, _ => rfl
  | .tup ds, q => by simp only [below] at q ⊢; exact belows_mono h ds q
  | .lst ds, q => by simp only [below] at q ⊢; exact belows_mono h ds q
  | .set ds, q => by simp only [below] at q ⊢; exact belows_mono h ds q
  | .dct ks vs, q => by simp only [below, Bool.and_eq_true] at q ⊢; exact ⟨belows_mono h ks q.1, belows_mono h vs q.2⟩
  | .loc k, q => by simp only [below, decide_eq_true_eq] at q ⊢; omega
theorem belows_mono {n m : Nat} (h : n ≤ m) : ∀ ds : List D, belows n ds = true → belows m ds = true
  | [], _ => rfl
  | d :: ds, q => by simp only [belows, Bool.and_eq_true] at q ⊢; exact ⟨below_mono h d q.1, belows_mono h ds q.2⟩
end
/-- a value by the first cells alone -/
theorem LstAt.cut {l : List Addr} {a : Addr} {xs : List V} {ρ av : List Addr} (h : LstAt K ⟨ρ ++ l, av⟩ H a xs) : LstAt K ⟨ρ, av⟩ H a xs := by
  rcases h with ⟨h, n, m⟩ | h | h
  · exact .inl ⟨h, fun z => n (List.mem_append_left _ z), m⟩
  · exact .inr (.inl h)
  · exact .inr (.inr h)
variable {ρ l av : List Addr}
mutual
theorem fz_rep {g : Nat → D} {b : Nat} (hg : ∀ m a, ρ.length ≤ m → m < b → (ρ ++ l)[m]? = some a → Rep K ⟨ρ, av⟩ H (g m) (.ref a)) :
    ∀ (d : D) {v : V}, below b d = true → Rep K ⟨ρ ++ l, av⟩ H d v → Rep K ⟨ρ, av⟩ H (fzD ρ.length g d) v
  | .non, _, _, h => by simpa [Rep, fzD] using h
  | .bl _, _, _, h => by simpa [Rep, fzD] using h
  | .int _, _, _, h => by simpa [Rep, fzD] using h
  | .str _, _, _, h => by simpa [Rep, fzD] using h
  | .tup ds, _, q, h => by
    simp only [below] at q
    simp only [Rep, fzD] at h ⊢
    obtain ⟨a, vs, e, t, r⟩ := h
    exact ⟨a, vs, e, t, fz_reps hg ds q r⟩
  | .lst ds, _, q, h => by
    simp only [below] at q
    simp only [Rep, fzD] at h ⊢
    obtain ⟨a, vs, e, t, r⟩ := h
    exact ⟨a, vs, e, t.cut, fz_reps hg ds q r⟩
  | .loc m, _, q, h => by
    simp only [below, decide_eq_true_eq] at q
    simp only [Rep] at h
    obtain ⟨a, e, t⟩ := h
    subst e
    simp only [fzD]
    by_cases hm : m < ρ.length
    · rw [if_pos hm]
      rw [List.getElem?_append_left hm] at t
      simp only [Rep]
      exact ⟨a, rfl, t⟩
    · rw [if_neg hm]
      exact hg m a (by omega) q t
  | .dct _ _, _, _, h => by simp only [Rep] at h
  | .set _, _, _, h => by simp only [Rep] at h
theorem fz_reps {g : Nat → D} {b : Nat} (hg : ∀ m a, ρ.length ≤ m → m < b → (ρ ++ l)[m]? = some a → Rep K ⟨ρ, av⟩ H (g m) (.ref a)) :
    ∀ (ds : List D) {vs : List V}, belows b ds = true → Reps K ⟨ρ ++ l, av⟩ H ds vs → Reps K ⟨ρ, av⟩ H (fzDs ρ.length g ds) vs
  | [], _, _, h => by simpa [Reps, fzDs] using h
  | d :: ds, _, q, h => by
    simp only [belows, Bool.and_eq_true] at q
    simp only [Reps, fzDs] at h ⊢
    obtain ⟨v, r, e, h1, h2⟩ := h
    exact ⟨v, r, e, fz_rep hg d q.1 h1, fz_reps hg ds q.2 h2⟩
end
theorem nodup_at {α : Type} : ∀ {l : List α} {i j : Nat} {a : α}, l.Nodup → l[i]? = some a → l[j]? = some a → i = j
  | [], _, _, _, _, h1, _ => by simp at h1
  | x :: r, i, j, a, nd, h1, h2 => by
    obtain ⟨n1, n2⟩ := List.nodup_cons.mp nd
    cases i with
    | zero =>
      cases j with
      | zero => rfl
      | succ j =>
        simp at h1 h2
        subst h1
        exact absurd (List.mem_of_getElem? h2) n1
    | succ i =>
      cases j with
      | zero =>
        simp at h1 h2
        subst h2
        exact absurd (List.mem_of_getElem? h1) n1
      | succ j =>
        have := nodup_at n2 (i := i) (j := j) (a := a) (by simpa using h1) (by simpa using h2)
        omega
theorem nodup_app (nd : (ρ ++ l).Nodup) {m : Nat} {a : Addr} (hm : ρ.length ≤ m) (h : (ρ ++ l)[m]? = some a) : a ∉ ρ := by
  intro hin
  obtain ⟨k, hk⟩ := List.getElem?_of_mem hin
  have hk' : k < ρ.length := (List.getElem?_eq_some_iff.mp hk).1
  have h2 : (ρ ++ l)[k]? = some a := by rw [List.getElem?_append_left hk']; exact hk
  have := nodup_at nd h h2
  omega
theorem fzL_rep (R : RelSt K ⟨ρ ++ l, av⟩ s H) : ∀ (k m : Nat) (a : Addr), ρ.length ≤ m → m < k → (ρ ++ l)[m]? = some a → Rep K ⟨ρ, av⟩ H (fzL s ρ.length k m) (.ref a)
  | 0, _, _, _, h, _ => by omega
  | k + 1, m, a, h1, h2, h3 => by
    obtain ⟨ds, vs, e1, e2, e3, e4⟩ := R.cell m a h3
    have hg : s.getD m .non = .lst ds := by rw [List.getD_eq_getElem?_getD, e1]; rfl
    unfold fzL
    rw [hg]
    simp only [fzD, Rep]
    refine ⟨a, vs, rfl, .inl ⟨e2, nodup_app R.nd h1 h3, fun q => (R.avd a q).2 (List.mem_of_getElem? h3)⟩, ?_⟩
    exact fz_reps (b := m) (fun m' a' q1 q2 q3 => fzL_rep R k m' a' q1 (by omega) q3) ds e4 e3
/-- a value when the cells from ρ.length on are given up -/
theorem Rep.left {d : D} {v : V} (R : RelSt K ⟨ρ ++ l, av⟩ s H) (h : Rep K ⟨ρ ++ l, av⟩ H d v) : Rep K ⟨ρ, av⟩ H (fz ρ.length s d) v := by
  unfold fz
  refine fz_rep (b := s.length) (fun m a q1 q2 q3 => fzL_rep R _ m a q1 q2 q3) d ?_ h
  rw [← R.len]
  exact rep_below d h
theorem Reps.left {ds : List D} {vs : List V} (R : RelSt K ⟨ρ ++ l, av⟩ s H) (h : Reps K ⟨ρ ++ l, av⟩ H ds vs) : Reps K ⟨ρ, av⟩ H (fzDs ρ.length (fzL s ρ.length s.length) ds) vs := by
  refine fz_reps (b := s.length) (fun m a q1 q2 q3 => fzL_rep R _ m a q1 q2 q3) ds ?_ h
  rw [← R.len]
  exact reps_below ds h
/-- a value with all its cells read -/
theorem Rep.read {d : D} {v : V} (R : RelSt K W s H) (h : Rep K W H d v) : Rep K ⟨[], W.av⟩ H (fz 0 s d) v := Rep.left (ρ := []) (l := W.rho) (by simpa using R) (by simpa using h)
theorem RelSt.left (R : RelSt K ⟨ρ ++ l, av⟩ s H) : RelSt K ⟨ρ, av⟩ (s.take ρ.length) H := by
  have hl := R.len
  simp only [List.length_append] at hl
  refine ⟨by rw [List.length_take]; simp only; omega, (List.nodup_append.mp R.nd).1, fun a q => ⟨(R.avd a q).1, fun z => (R.avd a q).2 (List.mem_append_left _ z)⟩, fun n a h => ?_⟩
  have h : ρ[n]? = some a := h
  have hn : n < ρ.length := (List.getElem?_eq_some_iff.mp h).1
  have h' : (ρ ++ l)[n]? = some a := by rw [List.getElem?_append_left hn]; exact h
  obtain ⟨ds, vs, e1, e2, e3, e4⟩ := R.cell n a h'
  have kp : Keeps K ⟨ρ ++ l, av⟩ H ⟨ρ, av⟩ H ρ.length := ⟨fun _ _ q => q, fun _ _ q => q.cut, fun m b hm q => by
    have q : (ρ ++ l)[m]? = some b := q
    rw [List.getElem?_append_left hm] at q
    exact q⟩
  exact ⟨ds, vs, by rw [List.getElem?_take_of_lt hn]; exact e1, e2, Reps.by kp ds (belows_mono (Nat.le_of_lt hn) ds e4) e3, e4⟩
theorem Pres.left (p : Pres ⟨ρ, av⟩ H ⟨ρ ++ l, av⟩ H') : Pres ⟨ρ, av⟩ H ⟨ρ, av⟩ H' := ⟨rfl, ⟨[], by simp, by simp⟩, p.keep, p.dom⟩
/-- the store is as it was: the heap has grown -/
theorem RelSt.new {p : Addr} {o : HO} (R : RelSt K W s H) (h : H p = none) : RelSt K W s (upd H p o) :=
  ⟨R.len, R.nd, fun a q => ⟨(Pres.new (W := W) (o := o) h).dom a (R.avd a q).1, (R.avd a q).2⟩, fun n a q => by
    obtain ⟨ds, vs, e1, e2, e3, e4⟩ := R.cell n a q
    exact ⟨ds, vs, e1, by rw [upd_ne (ne_of_none e2 h)]; exact e2, Reps.pres (Pres.new h) e3, e4⟩⟩
theorem RelSt.not_mem {p : Addr} (R : RelSt K W s H) (h : H p = none) : p ∉ W.rho := fun hin => by
  obtain ⟨k, hk⟩ := List.getElem?_of_mem hin
  obtain ⟨ds, vs, e1, e2, _⟩ := R.cell k p hk
  rw [h] at e2; cases e2
theorem RelSt.not_av {p : Addr} (R : RelSt K W s H) (h : H p = none) : p ∉ W.av := fun hin => (R.avd p hin).1 h
/-- a list at p that is not named by anything -/
structure Own (K : PySem.W.Frag) (W : Wd) (s : Sto) (H : Hp) (p : Addr) (ds : List D) (vs : List V) : Prop where
  at_ : H p = some (.lst vs)
  nav : p ∉ W.av
  rel : RelSt K (W.avo p) s H
  reps : Reps K (W.avo p) H ds vs
theorem LstAt.unavo {p a : Addr} {xs : List V} (h : LstAt K (W.avo p) H a xs) : LstAt K W H a xs := by
  rcases h with ⟨h, n, m⟩ | h | h
  · exact .inl ⟨h, n, fun z => m (List.mem_cons_of_mem _ z)⟩
  · exact .inr (.inl h)
  · exact .inr (.inr h)
theorem keeps_unavo {p : Addr} {b : Nat} : Keeps K (W.avo p) H W H b := ⟨fun _ _ q => q, fun _ _ q => q.unavo, fun _ _ _ q => q⟩
theorem RelSt.unavo {p : Addr} (R : RelSt K (W.avo p) s H) : RelSt K W s H :=
  ⟨R.len, R.nd, fun a q => R.avd a (List.mem_cons_of_mem _ q), fun n a q => by
    obtain ⟨ds, vs, e1, e2, e3, e4⟩ := R.cell n a q
    exact ⟨ds, vs, e1, e2, Reps.by keeps_unavo ds (reps_below ds e3) e3, e4⟩⟩
theorem Own.rep {p : Addr} {ds : List D} {vs : List V} (o : Own K W s H p ds vs) : Rep K W H (.lst ds) (.ref p) := by
  simp only [Rep]
  have q := o.rel.avd p List.mem_cons_self
  exact ⟨p, vs, rfl, .inl ⟨o.at_, q.2, o.nav⟩, Reps.by keeps_unavo ds (reps_below ds o.reps) o.reps⟩
/-- what is known ahead of a new object does not name it -/
theorem keeps_avo {p : Addr} {o : HO} {b : Nat} (h : H p = none) : Keeps K W H (W.avo p) (upd H p o) b :=
  ⟨fun _ _ q => SqT.pres (W := W) (Pres.new h) q, fun a xs q => by
    rcases q with ⟨q, n, m⟩ | ⟨u, q⟩ | q
    · have e := ne_of_none q h
      refine .inl ⟨by rw [upd_ne e]; exact q, n, fun z => ?_⟩
      rcases List.mem_cons.mp z with z | z
      · exact e z
      · exact m z
    · exact .inr (.inl ⟨u, by rw [upd_ne (ne_of_none q h)]; exact q⟩)
    · exact .inr (.inr q), fun _ _ _ q => q⟩
theorem RelSt.avo {p : Addr} {o : HO} (R : RelSt K W s H) (h : H p = none) : RelSt K (W.avo p) s (upd H p o) :=
  ⟨R.len, R.nd, fun a q => by
    rcases List.mem_cons.mp q with q | q
    · subst q; exact ⟨by rw [upd_same]; simp, R.not_mem h⟩
    · exact ⟨(Pres.new (W := W) (o := o) h).dom a (R.avd a q).1, (R.avd a q).2⟩, fun n a q => by
    obtain ⟨ds, vs, e1, e2, e3, e4⟩ := R.cell n a q
    exact ⟨ds, vs, e1, by rw [upd_ne (ne_of_none e2 h)]; exact e2, Reps.by (keeps_avo h) ds (reps_below ds e3) e3, e4⟩⟩
/-- a new list of known items -/
theorem Own.new {p : Addr} {ds : List D} {vs : List V} (R : RelSt K W s H) (r : Reps K W H ds vs) (h : H p = none) : Own K W s (upd H p (.lst vs)) p ds vs :=
  ⟨upd_same, R.not_av h, R.avo h, Reps.by (keeps_avo h) ds (reps_below ds r) r⟩
theorem keeps_cell {p : Addr} {b : Nat} : Keeps K (W.avo p) H ⟨W.rho ++ [p], W.av⟩ H b :=
  ⟨fun _ _ q => q, fun a xs q => by
    rcases q with ⟨q, n, m⟩ | q | q
    · refine .inl ⟨q, fun z => ?_, fun z => m (List.mem_cons_of_mem _ z)⟩
      rcases List.mem_append.mp z with z | z
      · exact n z
      · exact m (by rw [List.mem_singleton.mp z]; exact List.mem_cons_self)
    · exact .inr (.inl q)
    · exact .inr (.inr q), fun n a _ q => by
      have q : W.rho[n]? = some a := q
      show (W.rho ++ [p])[n]? = some a
      rw [List.getElem?_append_left (List.getElem?_eq_some_iff.mp q).1]
      exact q⟩
/-- such a list becomes a cell -/
theorem Own.cell {p : Addr} {ds : List D} {vs : List V} (o : Own K W s H p ds vs) : RelSt K ⟨W.rho ++ [p], W.av⟩ (s ++ [.lst ds]) H := by
  have R := o.rel
  have q := R.avd p List.mem_cons_self
  have hl : W.rho.length = s.length := R.len
  refine ⟨by simp [hl], ?_, fun a z => ?_, fun n a z => ?_⟩
  · show (W.rho ++ [p]).Nodup
    have : W.rho.Nodup := R.nd
    rw [List.nodup_append]
    refine ⟨this, by simp, fun a ha b hb e => ?_⟩
    rw [List.mem_singleton.mp hb] at e
    subst e
    exact q.2 ha
  · have z2 := R.avd a (List.mem_cons_of_mem _ z)
    refine ⟨z2.1, fun h => ?_⟩
    rcases List.mem_append.mp h with h | h
    · exact z2.2 h
    · rw [List.mem_singleton.mp h] at z; exact o.nav z
  · have z : (W.rho ++ [p])[n]? = some a := z
    by_cases hn : n < W.rho.length
    · rw [List.getElem?_append_left hn] at z
      obtain ⟨ds', vs', e1, e2, e3, e4⟩ := R.cell n a z
      exact ⟨ds', vs', by rw [List.getElem?_append_left (by omega)]; exact e1, e2, Reps.by keeps_cell ds' (reps_below ds' e3) e3, e4⟩
    · have hn2 : n = W.rho.length := by
        have := (List.getElem?_eq_some_iff.mp z).1
        rw [List.length_append] at this
        simp at this
        omega
      subst hn2
      rw [List.getElem?_append_right (Nat.le_refl _)] at z
      simp at z
      subst z
      refine ⟨ds, vs, by rw [hl]; simp, o.at_, Reps.by keeps_cell ds (reps_below ds o.reps) o.reps, ?_⟩
      exact reps_below (W := W.avo p) ds o.reps
/-- a cell's new contents -/
theorem RelSt.put {n : Nat} {a : Addr} {ds : List D} {vs : List V} (R : RelSt K W s H) (h : W.rho[n]? = some a) (r : Reps K W H ds vs) (b : belows n ds = true) :
    RelSt K W (s.set n (.lst ds)) (upd H a (.lst vs)) ∧ Pres W H W (upd H a (.lst vs)) := by
  obtain ⟨ds0, vs0, c1, c2, _, _⟩ := R.cell n a h
  have ha := List.mem_of_getElem? h
  have p : Pres W H W (upd H a (.lst vs)) := by
    refine ⟨rfl, ⟨[], by simp, by simp⟩, fun b o e hm _ => ?_, fun b e => ?_⟩
    · have : b ≠ a := fun z => by
        subst z
        rw [c2] at e
        cases e
        exact hm trivial ha
      rw [upd_ne this]; exact e
    · by_cases q : b = a
      · subst q; rw [upd_same]; simp
      · rw [upd_ne q]; exact e
  refine ⟨⟨by rw [List.length_set]; exact R.len, R.nd, fun b q => ⟨p.dom b (R.avd b q).1, (R.avd b q).2⟩, fun m b q => ?_⟩, p⟩
  by_cases hm : m = n
  · subst hm
    rw [h] at q
    cases q
    exact ⟨ds, vs, by rw [List.getElem?_set_self (List.getElem?_eq_some_iff.mp c1).1], upd_same, Reps.pres p r, b⟩
  · obtain ⟨ds', vs', e1, e2, e3, e4⟩ := R.cell m b q
    have hb : b ≠ a := fun z => by
      subst z
      exact hm (nodup_at R.nd q h)
    exact ⟨ds', vs', by rw [List.getElem?_set_ne (Ne.symm hm)]; exact e1, by rw [upd_ne hb]; exact e2, Reps.pres p e3, e4⟩
/-- from a state ahead: the new cell stood not there -/
theorem Pres.cell {p : Addr} (a : Pres W H W1 H1) (h : H p = none) : Pres W H ⟨W1.rho ++ [p], W1.av⟩ H1 := by
  obtain ⟨v1, ⟨l1, e1, n1⟩, k1, d1⟩ := a
  refine ⟨v1, ⟨l1 ++ [p], by simp [e1], fun b hb => ?_⟩, k1, d1⟩
  rcases List.mem_append.mp hb with hb | hb
  · exact n1 b hb
  · rw [List.mem_singleton.mp hb]; exact h
/-- what stays, kept from a list apart -/
theorem Pres.avo {p : Addr} (a : Pres W H W1 H1) : Pres (W.avo p) H (W1.avo p) H1 :=
  ⟨by show p :: W1.av = p :: W.av; rw [a.av], a.ext, a.keep, a.dom⟩
theorem Pres.of_avo {p : Addr} {W2 : Wd} (a : Pres (W.avo p) H W2 H1) : ∃ W1, W2 = W1.avo p ∧ Pres W H W1 H1 := by
  refine ⟨⟨W2.rho, W.av⟩, ?_, rfl, a.ext, a.keep, a.dom⟩
  have e : W2.av = p :: W.av := a.av
  cases W2
  simp only at e
  subst e
  rfl
end
end Pv
end
section
set_option maxRecDepth 100000
set_option maxHeartbeats 4000000
namespace Pv
open PySem PySem.Spec PyProof.Rows L2
/-! ### what an evaluation leaves -/
structure Got (K : PySem.W.Frag) (fr : Bool) (W : Wd) (H : Hp) (W' : Wd) (s' : Sto) (H' : Hp) (d : D) (v : V) : Prop where
  pres : Pres W H W' H'
  st : RelSt K W' s' H'
  rep : Rep K W' H' d v
  own : fr = true → ∀ ds, d = .lst ds → ∃ p vs, v = .ref p ∧ H p = none ∧ Own K W' s' H' p ds vs
section
variable {K : PySem.W.Frag} {fr : Bool} {W W' W1 : Wd} {H H' H1 : Hp} {s s' s1 : Sto} {d : D} {v : V}
def D.isLst : D → Bool
  | .lst _ => true
  | _ => false
theorem Got.val (R : RelSt K W s H) (r : Rep K W H d v) (h : d.isLst = false) : Got K fr W H W s H d v :=
  ⟨Pres.refl, R, r, fun _ ds e => by subst e; cases h⟩
theorem Got.old (R : RelSt K W s H) (r : Rep K W H d v) : Got K false W H W s H d v :=
  ⟨Pres.refl, R, r, fun e => nomatch e⟩
theorem Got.tupNew {ds : List D} {vs : List V} {p : Addr} (R : RelSt K W s H) (r : Reps K W H ds vs) (h : H p = none) : Got K fr W H W s (upd H p (.tup vs)) (.tup ds) (.ref p) :=
  ⟨Pres.new h, R.new h, ⟨p, vs, rfl, SqT.of upd_same, Reps.pres (Pres.new h) r⟩, fun _ _ e => nomatch e⟩
theorem Got.lstNew {ds : List D} {vs : List V} {p : Addr} (R : RelSt K W s H) (r : Reps K W H ds vs) (h : H p = none) : Got K fr W H W s (upd H p (.lst vs)) (.lst ds) (.ref p) := by
  have o := Own.new R r h
  exact ⟨Pres.new h, o.rel.unavo, o.rep, fun _ ds' e => by cases e; exact ⟨p, vs, rfl, h, o⟩⟩
theorem Got.trans {fr' : Bool} (p : Pres W H W1 H1) (g : Got K fr W1 H1 W' s' H' d v) : Got K fr W H W' s' H' d v :=
  ⟨p.trans g.pres, g.st, g.rep, fun e ds q => by
    obtain ⟨a, vs, e1, e2, o⟩ := g.own e ds q
    refine ⟨a, vs, e1, ?_, o⟩
    cases z : H a with
    | none => rfl
    | some u => exact absurd e2 (p.dom a (by rw [z]; simp))⟩
/-! ### a value read -/
theorem rd_cases (R : RelSt K W s H) (r : Rep K W H d v) : rd s d = d ∨ ∃ ds p vs, rd s d = .lst ds ∧ v = .ref p ∧ SqL K H p vs ∧ Reps K W H ds vs := by
  cases d with
  | loc n =>
    simp only [Rep] at r
    obtain ⟨a, e, q⟩ := r
    obtain ⟨ds, vs, e1, e2, e3, _⟩ := R.cell n a q
    exact .inr ⟨ds, a, vs, by simp [rd, List.getD_eq_getElem?_getD, e1], e, SqL.of e2, e3⟩
  | _ => exact .inl rfl
theorem rd_int {i : Int} (R : RelSt K W s H) (r : Rep K W H d v) (e : rd s d = .int i) : v = .int i := by
  rcases rd_cases R r with q | ⟨ds, p, vs, q, _⟩
  · rw [q] at e; subst e; simpa [Rep] using r
  · rw [q] at e; cases e
theorem rd_bl {i : Bool} (R : RelSt K W s H) (r : Rep K W H d v) (e : rd s d = .bl i) : v = .bl i := by
  rcases rd_cases R r with q | ⟨ds, p, vs, q, _⟩
  · rw [q] at e; subst e; simpa [Rep] using r
  · rw [q] at e; cases e
theorem rd_str {i : Str} (R : RelSt K W s H) (r : Rep K W H d v) (e : rd s d = .str i) : v = .str i := by
  rcases rd_cases R r with q | ⟨ds, p, vs, q, _⟩
  · rw [q] at e; subst e; simpa [Rep] using r
  · rw [q] at e; cases e
theorem rd_non (R : RelSt K W s H) (r : Rep K W H d v) (e : rd s d = .non) : v = .non := by
  rcases rd_cases R r with q | ⟨ds, p, vs, q, _⟩
  · rw [q] at e; subst e; simpa [Rep] using r
  · rw [q] at e; cases e
theorem rd_tup {ds : List D} (R : RelSt K W s H) (r : Rep K W H d v) (e : rd s d = .tup ds) : ∃ p vs, v = .ref p ∧ SqT K H p vs ∧ Reps K W H ds vs := by
  rcases rd_cases R r with q | ⟨ds, p, vs, q, _⟩
  · rw [q] at e; subst e; simpa [Rep] using r
  · rw [q] at e; cases e
theorem rd_lst {ds : List D} (R : RelSt K W s H) (r : Rep K W H d v) (e : rd s d = .lst ds) : ∃ p vs, v = .ref p ∧ SqL K H p vs ∧ Reps K W H ds vs := by
  rcases rd_cases R r with q | ⟨ds', p, vs, q, q2, q3, q4⟩
  · rw [q] at e
    subst e
    simp only [Rep] at r
    obtain ⟨a, vs, e1, e2, e3⟩ := r
    exact ⟨a, vs, e1, e2.sq, e3⟩
  · rw [q] at e; cases e
    exact ⟨p, vs, q2, q3, q4⟩
end
theorem big_eq : big = sizeLine := by rw [sizeLine_eq]; rfl
section
variable {X : Cx} {pins : List (Addr × Obj)} {σ : L2.St} {H : Hp} {s : Shared}
/-! ### rules that lack -/
def rCatL (K : PySem.W.Frag) : R2 := fun x y H Q => ∃ l b xs zs, x = .ref l ∧ y = .ref b ∧ SqL K H l xs ∧ SqL K H b zs ∧ xs.length + zs.length ≤ sizeLine ∧ ∀ p, H p = none → Q (.ref p) (upd H p (.lst (xs ++ zs)))
theorem op_catL : OpR X (binaryOp .Add) (rCatL X.K) := by
  intro pins s σ H x y v u Q I rx ry h
  obtain ⟨l, b, xs, zs, rfl, rfl, hH, hB, hz, q⟩ := h
  cases rx
  cases ry
  obtain ⟨its, r, pl, _⟩ := I.list hH
  obtain ⟨its2, r2, pl2, _⟩ := I.list hB
  have hl := r.length
  have hl2 := r2.length
  obtain ⟨⟨cls, dd, data, sl⟩, ho, hc, n, hd⟩ := id pl.isList
  obtain ⟨⟨cls2, dd2, data2, sl2⟩, ho2, hc2, n2, hd2⟩ := id pl2.isList
  simp only at hc hd hc2 hd2
  subst hc hd hc2 hd2
  refine concat_meets ⟨_, ho, rfl⟩ ⟨_, ho2, rfl⟩ noFill_list_add seq_list_add PySem.F.slot_list_add PySem.F.entry_list_add (PySem.F.args_list_add_2 _ _) (list_addW l b its.toArray its2.toArray n n2 dd dd2 sl sl2 (by simp only [List.size_toArray]; omega)) ⟨ho, ho2, ?_⟩
  have ea : its.toArray ++ its2.toArray = (its ++ its2).toArray := by simp
  rw [ea]
  exact ⟨.ref _, _, I.lnew (t' := s.toks) (r.append r2) (by rw [List.length_append]; omega), rfl, q _ I.fresh⟩
theorem int_rmul_any (a : Int) (t : Tok) (l : Addr) (items : Array Value) (n : Nat) (dd : Option Addr) (sl : Array (Option Value)) :
    Meets (Builtin.«int.__rmul__» ⟨[.int a t, .ref l], []⟩) (fun _ R s => s.heap.get? l = some { cls := .type "list", dict := dd, data := .seq items n, slots := sl } ∧ R (.ok (.ret Value.notImplemented)) s) :=
  .of_wp fun prog w A R s h => by obtain ⟨hp, g, d, tk, os⟩ := s; obtain ⟨hl, h⟩ := h; wp_walk using wpAny_loadPart' hl; exact ⟨_, rfl, h⟩
theorem list_mul_any (l : Addr) (items : Array Value) (n : Nat) (dd : Option Addr) (sl : Array (Option Value)) (x : Int) (u : Tok) (c0 : ¬ (!Builtin.List.listFitsIndex x) = true)
    (c1 : ¬ items.size * x.toNat > (2 ^ 63 - 1) / 8) (c2 : ¬ Builtin.List.listTooLong (items.size * x.toNat) = true)
    (c3 : ¬ (List.foldl (fun x1 x2 => x1 ++ x2) #[] (List.replicate (if items.isEmpty = true then 0 else x.toNat) items)).size > sizeLine) :
    Meets (Builtin.«list.__mul__» ⟨[.ref l, .int x u], []⟩) (fun _ R s => s.heap.get? l = some { cls := .type "list", dict := dd, data := .seq items n, slots := sl } ∧
      R (.ok (.ret (Value.ref s.heap.objs.size))) { s with heap := s.heap.push { cls := Value.type "list", data := Data.seq (List.foldl (fun x1 x2 => x1 ++ x2) #[] (List.replicate (if items.isEmpty = true then 0 else x.toNat) items)) } }) :=
  .of_wp fun prog w A R s h => by
    obtain ⟨hp, g, d, tk, os⟩ := s
    obtain ⟨hl, h⟩ := h
    have f1 := AutoSeq1.idx_int
    wp_walk using wpAny_loadPart' hl
    repeat (first
      | (refine wpAny_ite_false (decide_eq_false c0) ?_; wp_walk using wpAny_loadPart' hl)
      | (refine wpAny_ite_false (decide_eq_false c1) ?_; wp_walk using wpAny_loadPart' hl)
      | (refine wpAny_ite_false (decide_eq_false c2) ?_; wp_walk using wpAny_loadPart' hl)
      | (refine wpAny_ite_false (decide_eq_false c3) ?_; wp_walk using wpAny_loadPart' hl))
    exact ⟨_, rfl, h⟩
def rRepL (K : PySem.W.Frag) : R2 := fun x y H Q => ∃ l k xs, x = .ref l ∧ y = .int k ∧ SqL K H l xs ∧ -(2 ^ 63) ≤ k ∧ k < 2 ^ 63 ∧ xs.length * k.toNat ≤ sizeLine ∧
  ∀ p, H p = none → Q (.ref p) (upd H p (.lst (List.replicate k.toNat xs).flatten))
theorem op_repL : OpR X (binaryOp .Mult) (rRepL X.K) := by
  intro pins s σ H x y v u Q I rx ry h
  obtain ⟨l, k, xs, rfl, rfl, hH, h1, h2, hz, q⟩ := h
  cases rx
  obtain ⟨t, rfl⟩ := ry
  obtain ⟨its, r, pl, _⟩ := I.list hH
  have hl := r.length
  obtain ⟨⟨cls, dd, data, sl⟩, ho, hc, n, hd⟩ := id pl.isList
  simp only at hc hd
  subst hc hd
  have hlen : its.toArray.size * k.toNat ≤ sizeLine := by rw [List.size_toArray, ← hl]; exact hz
  have hcap : ¬ its.toArray.size * k.toNat > (2 ^ 63 - 1) / 8 := by
    have : (sizeLine : Nat) ≤ (2 ^ 63 - 1) / 8 := by decide
    omega
  have hfit : ¬ (!Builtin.List.listFitsIndex k) = true := by
    rw [fitsIndex_both h1 h2]
    exact Bool.false_ne_true
  have hlong : ¬ Builtin.List.listTooLong (its.toArray.size * k.toNat) = true := by
    rw [notLongL hlen]
    exact Bool.false_ne_true
  have hnew : List.foldl (fun x1 x2 => x1 ++ x2) #[] (List.replicate (if its.toArray.isEmpty = true then 0 else k.toNat) its.toArray) = (List.replicate k.toNat its).flatten.toArray := by
    have f0 : ∀ m : Nat, List.foldl (fun x1 x2 => x1 ++ x2) #[] (List.replicate m its.toArray) = (List.replicate m its).flatten.toArray := fun m => by
      have := foldl_rep its m []
      rw [List.nil_append] at this
      exact this
    rw [f0]
    cases its with
    | nil => simp
    | cons a r' => rw [if_neg (by simp)]
  refine wpAny_binaryOp_repeat_ref (T := "list") (U := "int") (by decide) ⟨_, ho, rfl⟩ (fun s' => typeIs_int s' k t) noFill_list_mul F.fills_int_mul F.slot_int_rmul repeat_list F.slot_int_index.lookup
    (call_meets F.slot_int_rmul (typeIs_int s k t) F.entry_int_rmul (F.args_int_rmul_2 _ _) (int_rmul_any k t l its.toArray n dd sl)
      ⟨ho, rfl, ⟨_, ho, rfl⟩, call_meets F.slot_list_mul ⟨_, ho, rfl⟩ F.entry_list_mul (F.args_list_mul_2 _ _) (list_mul_any l its.toArray n dd sl k t hfit hcap hlong (by
        rw [hnew, List.size_toArray, PyProof.Rows.lm_len_rep_flat, ← hl, Nat.mul_comm]; omega)) ⟨ho, ?_⟩⟩)
  rw [hnew]
  exact ⟨.ref _, _, I.lnew (t' := s.toks) (r.rep k.toNat) (by rw [PyProof.Rows.lm_len_rep_flat, Nat.mul_comm]; exact hz), rfl, q _ I.fresh⟩
theorem tuple_mul_one (l : Addr) (items : Array Value) (n : Nat) (dd : Option Addr) (sl : Array (Option Value)) (x : Int) (u : Tok) (c0 : (decide (x < -(2 ^ 63)) || decide (x ≥ 2 ^ 63)) = false) (c1 : (items.isEmpty || x == 1) = true) :
    Meets (Builtin.«tuple.__mul__» ⟨[.ref l, .int x u], []⟩) (fun _ R s => s.heap.get? l = some { cls := .type "tuple", dict := dd, data := .seq items n, slots := sl } ∧ R (.ok (.ret (Value.ref l))) s) :=
  .of_wp fun prog w A R s h => by
    obtain ⟨hp, g, d, tk, os⟩ := s
    obtain ⟨hl, h⟩ := h
    have f1 := AutoSeq1.idx_int
    wp_walk using wpAny_loadPart' hl
    repeat (first
      | (refine wpAny_ite_false (decide_eq_false (by rw [c0]; exact Bool.false_ne_true)) ?_; wp_walk using wpAny_loadPart' hl)
      | (refine wpAny_ite_true (decide_eq_true c1) ?_; wp_walk using wpAny_loadPart' hl))
    exact ⟨_, rfl, h⟩
def rRepU (K : PySem.W.Frag) : R2 := fun x y H Q => ∃ l k xs, x = .ref l ∧ y = .int k ∧ SqT K H l xs ∧ 1 ≤ k ∧ k ≤ 1000 ∧ xs.length ≤ 1000 ∧ ((xs = [] ∨ k = 1) → Q (.ref l) H) ∧
  (xs ≠ [] → 2 ≤ k → ∀ p, H p = none → Q (.ref p) (upd H p (.tup (List.replicate k.toNat xs).flatten)))
theorem op_repU : OpR X (binaryOp .Mult) (rRepU X.K) := by
  intro pins s σ H x y v u Q I rx ry h
  obtain ⟨l, k, xs, rfl, rfl, hT, h1, h2, hz, q1, q2⟩ := h
  by_cases hc : xs = [] ∨ k = 1
  · cases rx
    obtain ⟨t, rfl⟩ := ry
    obtain ⟨its, r, ⟨⟨cls, dd, data, sl⟩, ho, hcl, n, hd⟩, hs⟩ := I.tuple hT
    simp only at hcl hd
    subst hcl hd
    have hle : its.length = xs.length := r.length.symm
    have c1 : (its.toArray.isEmpty || k == 1) = true := by
      rcases hc with e | e
      · subst e
        have : its = [] := List.eq_nil_of_length_eq_zero (by simpa using hle)
        subst this
        rfl
      · subst e; simp
    have c0 : (decide (k < -(2 ^ 63)) || decide (k ≥ 2 ^ 63)) = false := by
      rw [decide_eq_false (by omega), decide_eq_false (by omega)] <;> rfl
    exact wpAny_binaryOp_repeat_ref (T := "tuple") (U := "int") (by decide) ⟨_, ho, rfl⟩ (fun s' => typeIs_int s' k t) noFill_tuple_mul F.fills_int_mul F.slot_int_rmul repeat_tuple F.slot_int_index.lookup
      (call_meets F.slot_int_rmul (typeIs_int s k t) F.entry_int_rmul (F.args_int_rmul_2 _ _) (int_rmul_tuple k t l its.toArray n dd sl)
        ⟨ho, rfl, ⟨_, ho, rfl⟩, call_meets F.slot_tuple_mul ⟨_, ho, rfl⟩ F.entry_tuple_mul (F.args_tuple_mul_2 _ _) (tuple_mul_one l its.toArray n dd sl k t c0 c1) ⟨ho, ⟨.ref l, H, I, rfl, q1 hc⟩⟩⟩)
  · have h3 : xs ≠ [] := fun e => hc (.inl e)
    have h4 : 2 ≤ k := by
      have : k ≠ 1 := fun e => hc (.inr e)
      omega
    exact op_repT pins s σ H _ _ v u Q I rx ry ⟨l, k, xs, rfl, rfl, hT, h3, h4, h2, hz, q2 h3 h4⟩
/-! ### two-place operators -/
def opOf : Op → Operator
  | .add => .Add | .sub => .Sub | .mul => .Mult | .fdiv => .FloorDiv | .mod => .Mod | .pow => .Pow
def rBin (K : PySem.W.Frag) (o : Op) : R2 := fun x y H Q => ∃ W s a b d, RelSt K W s H ∧ Rep K W H a x ∧ Rep K W H b y ∧ binD o (rd s a) (rd s b) = some d ∧ ∀ v H', Got K true W H W s H' d v → Q v H'
theorem mulOk_ok {i j : Int} (h : mulOk i j = true) : IntMulOk i j := by
  unfold mulOk at h
  simp only [Bool.or_eq_true, decide_eq_true_eq] at h
  rcases h with (h | h) | h
  · exact .of_left (intBits_le_64 h.1 h.2)
  · exact .of_right (intBits_le_64 h.1 h.2)
  · exact CMulW.ok (show _ + _ < 1000000 by omega)
theorem Reps.rep {K : PySem.W.Frag} {W : Wd} {H : Hp} {ds : List D} {vs : List V} (h : Reps K W H ds vs) : ∀ n, Reps K W H (List.replicate n ds).flatten (List.replicate n vs).flatten
  | 0 => by simp [Reps]
  | n + 1 => by
    rw [List.replicate_succ, List.replicate_succ, List.flatten_cons, List.flatten_cons]
    exact Reps.append h (Reps.rep h n)
theorem op_bin : ∀ o : Op, OpR X (binaryOp (opOf o)) (rBin X.K o) := by
  intro o pins s σ H x y v u Q I rx ry h
  obtain ⟨W, st, a, b, d, R, ha, hb, e, q⟩ := h
  have bg := big_eq
  unfold binD at e
  split at e
  · rename_i i j h1 h2
    cases e
    exact op_add pins s σ H x y v u Q I rx ry ⟨i, j, rd_int R ha h1, rd_int R hb h2, q _ _ (Got.val R rfl rfl)⟩
  · rename_i xs ys h1 h2
    split at e
    · rename_i hz
      cases e
      obtain ⟨p, vs, e1, t1, r1⟩ := rd_tup R ha h1
      obtain ⟨p2, ws, e2, t2, r2⟩ := rd_tup R hb h2
      have l1 := r1.length
      have l2 := r2.length
      refine op_catA pins s σ H x y v u Q I rx ry ⟨p, p2, vs, ws, e1, e2, t1, t2, by rw [← bg]; omega, fun z => ?_, fun _ z => ?_, fun _ _ p3 n3 => ?_⟩
      · have : xs = [] := List.eq_nil_of_length_eq_zero (by rw [l1, z]; rfl)
        subst this
        exact q _ _ (Got.val R (by simp only [List.nil_append, Rep]; exact ⟨p2, ws, rfl, t2, r2⟩) rfl)
      · have : ys = [] := List.eq_nil_of_length_eq_zero (by rw [l2, z]; rfl)
        subst this
        exact q _ _ (Got.val R (by simp only [List.append_nil, Rep]; exact ⟨p, vs, rfl, t1, r1⟩) rfl)
      · exact q _ _ (Got.tupNew R (r1.append r2) n3)
    · cases e
  · rename_i xs ys h1 h2
    split at e
    · rename_i hz
      cases e
      obtain ⟨p, vs, e1, t1, r1⟩ := rd_lst R ha h1
      obtain ⟨p2, ws, e2, t2, r2⟩ := rd_lst R hb h2
      have l1 := r1.length
      have l2 := r2.length
      exact op_catL pins s σ H x y v u Q I rx ry ⟨p, p2, vs, ws, e1, e2, t1, t2, by rw [← bg]; omega, fun p3 n3 => q _ _ (Got.lstNew R (r1.append r2) n3)⟩
    · cases e
  · rename_i i j h1 h2
    split at e
    · rename_i hz
      cases e
      exact op_add_str pins s σ H x y v u Q I rx ry ⟨i, j, rd_str R ha h1, rd_str R hb h2, by rw [← bg]; exact hz, q _ _ (Got.val R rfl rfl)⟩
    · cases e
  · rename_i i j h1 h2
    cases e
    exact op_sub pins s σ H x y v u Q I rx ry ⟨i, j, rd_int R ha h1, rd_int R hb h2, q _ _ (Got.val R rfl rfl)⟩
  · rename_i i j h1 h2
    split at e
    · rename_i hz
      cases e
      exact opI (C := fun i j => mulOk i j = true) (fun _ _ _ _ _ _ _ hc q => mul_int q (mulOk_ok hc)) pins s σ H x y v u Q I rx ry ⟨i, j, rd_int R ha h1, rd_int R hb h2, hz, q _ _ (Got.val R rfl rfl)⟩
    · cases e
  · rename_i xs k h1 h2
    split at e
    · rename_i hz
      cases e
      obtain ⟨p, vs, e1, t1, r1⟩ := rd_tup R ha h1
      have l1 := r1.length
      refine op_repU pins s σ H x y v u Q I rx ry ⟨p, k, vs, e1, rd_int R hb h2, t1, hz.2.2, hz.2.1, by omega, fun z => ?_, fun _ _ p3 n3 => ?_⟩
      · refine q _ _ (Got.val R ?_ rfl)
        have ek : repD k xs = xs := by
          rcases z with z | z
          · have : xs = [] := List.eq_nil_of_length_eq_zero (by rw [l1, z]; rfl)
            subst this
            unfold repD
            simp
          · subst z
            unfold repD
            simp
        rw [ek]
        exact ⟨p, vs, rfl, t1, r1⟩
      · exact q _ _ (Got.tupNew R (r1.rep _) n3)
    · cases e
  · rename_i xs k h1 h2
    split at e
    · rename_i hz
      cases e
      obtain ⟨p, vs, e1, t1, r1⟩ := rd_lst R ha h1
      have l1 := r1.length
      exact op_repL pins s σ H x y v u Q I rx ry ⟨p, k, vs, e1, rd_int R hb h2, t1, by omega, by omega, by rw [← bg, ← l1]; exact hz.2.2, fun p3 n3 => q _ _ (Got.lstNew R (r1.rep _) n3)⟩
    · cases e
  · rename_i i j h1 h2
    split at e
    · rename_i hz
      cases e
      unfold divOk at hz
      simp only [Bool.and_eq_true, decide_eq_true_eq] at hz
      refine opI (C := fun i j => j ≠ 0 ∧ j.natAbs.log2 < 9000) (g := fdivZ) (fun i j _ _ _ _ _ hc q => ?_) pins s σ H x y v u Q I rx ry ⟨i, j, rd_int R ha h1, rd_int R hb h2, hz, q _ _ (Got.val R rfl rfl)⟩
      refine floordiv_int hc.1 ?_ (.inl (PyProof.noPylong_of_log2 hc.2))
      unfold fdivZ at q
      split at q
      · rw [Int.fdiv_eq_ediv_of_nonneg i (by omega)]; exact q
      · exact q
    · cases e
  · rename_i i j h1 h2
    split at e
    · rename_i hz
      cases e
      refine opI (C := fun i j => j ≠ 0) (g := modZ) (fun i j _ _ _ _ _ hc q => ?_) pins s σ H x y v u Q I rx ry ⟨i, j, rd_int R ha h1, rd_int R hb h2, hz, q _ _ (Got.val R rfl rfl)⟩
      refine mod_int' hc ?_
      unfold modZ at q
      split at q
      · rw [Int.fmod_eq_emod_of_nonneg i (by omega)]; exact q
      · exact q
    · cases e
  · rename_i i j h1 h2
    split at e
    · rename_i hz
      cases e
      exact op_pow pins s σ H x y v u Q I rx ry ⟨i, j, rd_int R ha h1, rd_int R hb h2, hz, q _ _ (Got.val R rfl rfl)⟩
    · cases e
  · cases e
end
end Pv
end
section
set_option maxRecDepth 100000
set_option maxHeartbeats 4000000
namespace Pv
open PySem PySem.Spec PyProof.Rows L2
/-! ### plain values as the library's data -/
mutual
def toPy : D → PyData
  | .bl b => .bool b
  | .int i => .int i
  | .str x => .str x
  | .tup xs => .tuple (toPys xs)
  | .lst xs => .list (toPys xs)
  | _ => .none
def toPys : List D → List PyData
  | [] => []
  | x :: r => toPy x :: toPys r
end
mutual
theorem plain_lay : ∀ (d : D) (k : Nat), plain k d = true → (toPy d).canLay0 = true ∧ (toPy d).depth ≤ k
  | .non, k, _ => by simp [toPy, PyData.canLay0, PyData.depth]
  | .bl _, k, _ => by simp [toPy, PyData.canLay0, PyData.depth]
  | .int _, k, _ => by simp [toPy, PyData.canLay0, PyData.depth]
  | .str x, k, h => by
    simp only [plain] at h
    simp only [toPy, PyData.canLay0, PyData.depth]
    exact ⟨h, Nat.zero_le _⟩
  | .tup xs, 0, h => by simp [plain] at h
  | .tup xs, k + 1, h => by
    simp only [plain] at h
    have q := plains_lay xs k h
    simp only [toPy, PyData.canLay0, PyData.depth]
    exact ⟨q.1, by omega⟩
  | .lst xs, 0, h => by simp [plain] at h
  | .lst xs, k + 1, h => by
    simp only [plain] at h
    have q := plains_lay xs k h
    simp only [toPy, PyData.canLay0, PyData.depth]
    exact ⟨q.1, by omega⟩
  | .dct _ _, _, h => by simp [plain] at h
  | .set _, _, h => by simp [plain] at h
  | .loc _, _, h => by simp [plain] at h
theorem plains_lay : ∀ (ds : List D) (k : Nat), plains k ds = true → PyData.canLayAll0 (toPys ds) = true ∧ PyData.depthAll (toPys ds) ≤ k
  | [], k, _ => by simp [toPys, PyData.canLayAll0, PyData.depthAll]
  | d :: ds, k, h => by
    simp only [plains, Bool.and_eq_true] at h
    have q1 := plain_lay d k h.1
    have q2 := plains_lay ds k h.2
    simp only [toPys, PyData.canLayAll0, PyData.depthAll, Bool.and_eq_true]
    exact ⟨⟨q1.1, q2.1⟩, by omega⟩
end
theorem shaped_toPy {d : D} (h : plain 60 d = true) : SeqAt.shaped (toPy d) = true := by
  have q := plain_lay d 60 h
  unfold SeqAt.shaped
  rw [q.1, decide_eq_true (by omega : (toPy d).depth ≤ 64)] <;> rfl
mutual
theorem eqv_toPy : ∀ (a b : D) (k m : Nat), plain k a = true → plain m b = true → eqv a b = PyData.eqv (toPy a) (toPy b)
  | .non, b, k, m, _, hb => by cases b <;> first | rfl | (simp [plain] at hb)
  | .bl _, b, k, m, _, hb => by cases b <;> first | rfl | (simp [plain] at hb)
  | .int _, b, k, m, _, hb => by cases b <;> first | rfl | (simp [plain] at hb)
  | .str _, b, k, m, _, hb => by cases b <;> first | rfl | (simp [plain] at hb)
  | .tup xs, b, k, m, ha, hb => by
    cases b with
    | tup ys =>
      cases k with
      | zero => simp [plain] at ha
      | succ k =>
        cases m with
        | zero => simp [plain] at hb
        | succ m =>
          simp only [plain] at ha hb
          simp only [toPy, eqv, PyData.eqv]
          exact eqvs_toPy xs ys k m ha hb
    | _ => first | rfl | (simp [plain] at hb)
  | .lst xs, b, k, m, ha, hb => by
    cases b with
    | lst ys =>
      cases k with
      | zero => simp [plain] at ha
      | succ k =>
        cases m with
        | zero => simp [plain] at hb
        | succ m =>
          simp only [plain] at ha hb
          simp only [toPy, eqv, PyData.eqv]
          exact eqvs_toPy xs ys k m ha hb
    | _ => first | rfl | (simp [plain] at hb)
  | .dct _ _, _, _, _, ha, _ => by simp [plain] at ha
  | .set _, _, _, _, ha, _ => by simp [plain] at ha
  | .loc _, _, _, _, ha, _ => by simp [plain] at ha
theorem eqvs_toPy : ∀ (as bs : List D) (k m : Nat), plains k as = true → plains m bs = true → eqvs as bs = PyData.eqvAll (toPys as) (toPys bs)
  | [], [], _, _, _, _ => rfl
  | [], _ :: _, _, _, _, _ => rfl
  | _ :: _, [], _, _, _, _ => rfl
  | a :: as, b :: bs, k, m, ha, hb => by
    simp only [plains, Bool.and_eq_true] at ha hb
    simp only [toPys, eqvs, PyData.eqvAll]
    rw [eqv_toPy a b k m ha.1 hb.1, eqvs_toPy as bs k m ha.2 hb.2]
end
section
variable {K : PySem.W.Frag} {W : Wd} {H : Hp}
mutual
theorem rep_dp : ∀ (d : D) (k : Nat) {v : V}, plain k d = true → Rep K W H d v → Dp K H v (toPy d)
  | .non, _, _, _, h => by simp only [Rep] at h; subst h; exact .non
  | .bl _, _, _, _, h => by simp only [Rep] at h; subst h; exact .bl _
  | .int _, _, _, _, h => by simp only [Rep] at h; subst h; exact .int _
  | .str _, _, _, _, h => by simp only [Rep] at h; subst h; exact .str _
  | .tup xs, 0, _, p, _ => by simp [plain] at p
  | .tup xs, k + 1, _, p, h => by
    simp only [plain] at p
    simp only [Rep] at h
    obtain ⟨a, vs, e, t, r⟩ := h
    subst e
    exact .tup t (reps_dp xs k p r)
  | .lst xs, 0, _, p, _ => by simp [plain] at p
  | .lst xs, k + 1, _, p, h => by
    simp only [plain] at p
    simp only [Rep] at h
    obtain ⟨a, vs, e, t, r⟩ := h
    subst e
    exact .lst t.sq (reps_dp xs k p r)
  | .dct _ _, _, _, p, _ => by simp [plain] at p
  | .set _, _, _, p, _ => by simp [plain] at p
  | .loc _, _, _, p, _ => by simp [plain] at p
theorem reps_dp : ∀ (ds : List D) (k : Nat) {vs : List V}, plains k ds = true → Reps K W H ds vs → DpAll K H vs (toPys ds)
  | [], _, _, _, h => by simp only [Reps] at h; subst h; exact .nil
  | d :: ds, k, _, p, h => by
    simp only [plains, Bool.and_eq_true] at p
    simp only [Reps] at h
    obtain ⟨v, r, e, h1, h2⟩ := h
    subst e
    exact .cons (rep_dp d k p.1 h1) (reps_dp ds k p.2 h2)
end
end
theorem memD_toPy {a : D} {k m : Nat} (ha : plain k a = true) : ∀ xs : List D, plains m xs = true → memD a xs = (toPys xs).any fun z => PyData.eqv z (toPy a)
  | [], _ => rfl
  | x :: r, h => by
    simp only [plains, Bool.and_eq_true] at h
    simp only [memD, toPys, List.any_cons]
    rw [eqv_toPy x a m k h.1 ha, memD_toPy ha r h.2]
section
variable {X : Cx}
def rInT (K : PySem.W.Frag) : R2 := fun x y H Q => ∃ d ds, Dp K H x d ∧ Dp K H y (.tuple ds) ∧ SeqAt.shaped d = true ∧ SeqAt.shaped (.tuple ds) = true ∧ Q (.bl (ds.any fun z => PyData.eqv z d)) H
def rNotInT (K : PySem.W.Frag) : R2 := fun x y H Q => ∃ d ds, Dp K H x d ∧ Dp K H y (.tuple ds) ∧ SeqAt.shaped d = true ∧ SeqAt.shaped (.tuple ds) = true ∧ Q (.bl (!ds.any fun z => PyData.eqv z d)) H
theorem op_inT (hu : X.A.units + 65 < cLine) : OpR X (compareOp .In) (rInT X.K) := by
  intro pins s σ H x y v u Q I rx ry h
  obtain ⟨d, ds, hd, he, sd, se, q⟩ := h
  obtain ⟨as, r1⟩ := Dp.reads I d x v hd rx
  obtain ⟨bs, r2⟩ := Dp.reads I (.tuple ds) y u he ry
  exact SeqAt.in_tuple_reads r2 r1 (SeqAt.canLay_of_shaped se) (SeqAt.canLay_of_shaped sd) (room_in_shaped sd hu) ⟨.bl _, H, I, rfl, q⟩
theorem op_notInT (hu : X.A.units + 65 < cLine) : OpR X (compareOp .NotIn) (rNotInT X.K) := by
  intro pins s σ H x y v u Q I rx ry h
  obtain ⟨d, ds, hd, he, sd, se, q⟩ := h
  obtain ⟨as, r1⟩ := Dp.reads I d x v hd rx
  obtain ⟨bs, r2⟩ := Dp.reads I (.tuple ds) y u he ry
  exact SeqAt.notIn_tuple_reads r2 r1 (SeqAt.canLay_of_shaped se) (SeqAt.canLay_of_shaped sd) (room_in_shaped sd hu) ⟨.bl _, H, I, rfl, q⟩
def cpOf : Cp → CmpOp
  | .eq => .Eq | .ne => .NotEq | .lt => .Lt | .le => .LtE | .gt => .Gt | .ge => .GtE | .isin => .In | .notin => .NotIn | .is_ => .Is | .isnot => .IsNot
def rCmp (K : PySem.W.Frag) (o : Cp) : R2 := fun x y H Q => ∃ W s a b d, RelSt K W s H ∧ Rep K W H a x ∧ Rep K W H b y ∧ cmpD o (fz 0 s a) (fz 0 s b) = some d ∧ ∀ v H', Got K true W H W s H' d v → Q v H'
theorem intsD_eq : ∀ {xs : List D} {ns : List Int}, intsD xs = some ns → xs = ns.map D.int
  | [], ns, h => by simp [intsD] at h; subst h; rfl
  | .int i :: r, ns, h => by
    simp only [intsD, Option.map_eq_some_iff] at h
    obtain ⟨ms, h1, h2⟩ := h
    subst h2
    rw [intsD_eq h1]
    rfl
  | .non :: _, _, h => by simp [intsD] at h
  | .bl _ :: _, _, h => by simp [intsD] at h
  | .str _ :: _, _, h => by simp [intsD] at h
  | .tup _ :: _, _, h => by simp [intsD] at h
  | .lst _ :: _, _, h => by simp [intsD] at h
  | .dct _ _ :: _, _, h => by simp [intsD] at h
  | .set _ :: _, _, h => by simp [intsD] at h
  | .loc _ :: _, _, h => by simp [intsD] at h
theorem blsD_eq : ∀ {xs : List D} {ns : List Bool}, blsD xs = some ns → xs = ns.map D.bl
  | [], ns, h => by simp [blsD] at h; subst h; rfl
  | .bl i :: r, ns, h => by
    simp only [blsD, Option.map_eq_some_iff] at h
    obtain ⟨ms, h1, h2⟩ := h
    subst h2
    rw [blsD_eq h1]
    rfl
  | .non :: _, _, h => by simp [blsD] at h
  | .int _ :: _, _, h => by simp [blsD] at h
  | .str _ :: _, _, h => by simp [blsD] at h
  | .tup _ :: _, _, h => by simp [blsD] at h
  | .lst _ :: _, _, h => by simp [blsD] at h
  | .dct _ _ :: _, _, h => by simp [blsD] at h
  | .set _ :: _, _, h => by simp [blsD] at h
  | .loc _ :: _, _, h => by simp [blsD] at h
theorem reps_ints {K : PySem.W.Frag} {W : Wd} {H : Hp} : ∀ {ns : List Int} {vs : List V}, Reps K W H (ns.map D.int) vs → vs = ns.map V.int
  | [], _, h => by simpa [Reps] using h
  | n :: ns, _, h => by
    simp only [List.map_cons, Reps] at h
    obtain ⟨v, r, e, h1, h2⟩ := h
    subst e
    simp only [Rep] at h1
    subst h1
    rw [reps_ints h2]
    rfl
theorem reps_bls {K : PySem.W.Frag} {W : Wd} {H : Hp} : ∀ {ns : List Bool} {vs : List V}, Reps K W H (ns.map D.bl) vs → vs = ns.map V.bl
  | [], _, h => by simpa [Reps] using h
  | n :: ns, _, h => by
    simp only [List.map_cons, Reps] at h
    obtain ⟨v, r, e, h1, h2⟩ := h
    subst e
    simp only [Rep] at h1
    subst h1
    rw [reps_bls h2]
    rfl
theorem lexLt_eq : ∀ xs ys : List Int, lexLt xs ys = HT.lexLt xs ys
  | [], [] => rfl
  | [], _ :: _ => rfl
  | _ :: _, [] => rfl
  | x :: xs, y :: ys => by rw [HT.lexLt_cons, ← lexLt_eq xs ys]; rfl
theorem op_cmp {k : Nat} (hr : Room k X.A) (o : Cp) : OpR X (compareOp (cpOf o)) (rCmp X.K o) := by
  intro pins s σ H x y v u Q I rx ry h
  obtain ⟨W, st, a, b, d, R, ha, hb, e, q⟩ := h
  have ha' := Rep.read R ha
  have hb' := Rep.read R hb
  have hu : X.A.units + 65 < cLine := by have := hr.un; omega
  have fin : ∀ k, d = .bl k → Q (.bl k) H := fun k ek => q _ _ (by subst ek; exact Got.val R rfl rfl)
  generalize fz 0 st a = a' at e ha'
  generalize fz 0 st b = b' at e hb'
  cases o with
  | eq =>
    simp only [cmpD, eqD, Option.map_eq_some_iff] at e
    obtain ⟨k, e, e2⟩ := e
    split at e
    · rename_i hp
      simp only [Bool.and_eq_true] at hp
      cases e
      refine op_eqD (by have := hr.un; omega) pins s σ H x y v u Q I rx ry ⟨_, _, rep_dp a' 60 hp.1 ha', rep_dp b' 60 hp.2 hb', shaped_toPy hp.1, shaped_toPy hp.2, ?_⟩
      rw [← eqv_toPy a' b' 60 60 hp.1 hp.2]
      exact fin _ e2.symm
    · cases e
  | ne =>
    simp only [cmpD, eqD, Option.map_eq_some_iff] at e
    obtain ⟨k, e, e2⟩ := e
    split at e
    · rename_i hp
      simp only [Bool.and_eq_true] at hp
      cases e
      refine op_neD (by have := hr.un; omega) pins s σ H x y v u Q I rx ry ⟨_, _, rep_dp a' 60 hp.1 ha', rep_dp b' 60 hp.2 hb', shaped_toPy hp.1, shaped_toPy hp.2, ?_⟩
      rw [← eqv_toPy a' b' 60 60 hp.1 hp.2]
      exact fin _ e2.symm
    · cases e
  | lt =>
    simp only [cmpD, Option.map_eq_some_iff] at e
    obtain ⟨k, e, e2⟩ := e
    unfold ltD at e
    split at e
    · cases e
      simp only [Rep] at ha' hb'
      exact op_lt pins s σ H x y v u Q I rx ry ⟨_, _, ha', hb', fin _ e2.symm⟩
    · cases e
      simp only [Rep] at ha' hb'
      exact op_lt_str pins s σ H x y v u Q I rx ry ⟨_, _, ha', hb', fin _ e2.symm⟩
    · split at e
      · rename_i xs ys ns ms h1 h2
        cases e
        rw [intsD_eq h1] at ha'
        rw [intsD_eq h2] at hb'
        simp only [Rep] at ha' hb'
        obtain ⟨p, vs, e3, t, r⟩ := ha'
        obtain ⟨p', vs', e3', t', r'⟩ := hb'
        rw [reps_ints r] at t
        rw [reps_ints r'] at t'
        exact op_ltT hr.units0 pins s σ H x y v u Q I rx ry ⟨p, p', ns, ms, e3, e3', t, t', by rw [← lexLt_eq]; exact fin _ e2.symm⟩
      · cases e
    · cases e
  | le =>
    simp only [cmpD] at e
    split at e
    · cases e
      simp only [Rep] at ha' hb'
      exact op_le pins s σ H x y v u Q I rx ry ⟨_, _, ha', hb', fin _ rfl⟩
    · cases e
  | gt =>
    simp only [cmpD] at e
    split at e
    · cases e
      simp only [Rep] at ha' hb'
      exact op_gt pins s σ H x y v u Q I rx ry ⟨_, _, ha', hb', fin _ rfl⟩
    · cases e
  | ge =>
    simp only [cmpD] at e
    split at e
    · cases e
      simp only [Rep] at ha' hb'
      exact op_ge pins s σ H x y v u Q I rx ry ⟨_, _, ha', hb', fin _ rfl⟩
    · cases e
  | isin =>
    simp only [cmpD, Option.map_eq_some_iff] at e
    obtain ⟨k, e, e2⟩ := e
    unfold inD at e
    split at e
    · rename_i xs
      split at e
      · rename_i hp
        simp only [Bool.and_eq_true] at hp
        cases e
        have pt : plain 61 (.tup xs) = true := by simp only [plain]; exact hp.2
        have q2 := plain_lay _ 61 pt
        refine op_inT hu pins s σ H x y v u Q I rx ry ⟨_, toPys xs, rep_dp a' 60 hp.1 ha', by simpa [toPy] using rep_dp _ 61 pt hb', shaped_toPy hp.1, ?_, ?_⟩
        · unfold SeqAt.shaped
          rw [show PyData.tuple (toPys xs) = toPy (.tup xs) from rfl, q2.1, decide_eq_true (by omega : (toPy (.tup xs)).depth ≤ 64)] <;> rfl
        · rw [← memD_toPy hp.1 xs hp.2]
          exact fin _ e2.symm
      · cases e
    · rename_i xs
      split at e
      · rename_i hp
        simp only [Bool.and_eq_true] at hp
        cases e
        have pt : plain 61 (.lst xs) = true := by simp only [plain]; exact hp.2
        have q2 := plain_lay _ 61 pt
        refine op_inD hu pins s σ H x y v u Q I rx ry ⟨_, toPys xs, rep_dp a' 60 hp.1 ha', by simpa [toPy] using rep_dp _ 61 pt hb', shaped_toPy hp.1, ?_, ?_⟩
        · unfold SeqAt.shaped
          rw [show PyData.list (toPys xs) = toPy (.lst xs) from rfl, q2.1, decide_eq_true (by omega : (toPy (.lst xs)).depth ≤ 64)] <;> rfl
        · rw [← memD_toPy hp.1 xs hp.2]
          exact fin _ e2.symm
      · cases e
    · cases e
  | notin =>
    simp only [cmpD, Option.map_eq_some_iff] at e
    obtain ⟨k, e, e2⟩ := e
    unfold inD at e
    split at e
    · rename_i xs
      split at e
      · rename_i hp
        simp only [Bool.and_eq_true] at hp
        cases e
        have pt : plain 61 (.tup xs) = true := by simp only [plain]; exact hp.2
        have q2 := plain_lay _ 61 pt
        refine op_notInT hu pins s σ H x y v u Q I rx ry ⟨_, toPys xs, rep_dp a' 60 hp.1 ha', by simpa [toPy] using rep_dp _ 61 pt hb', shaped_toPy hp.1, ?_, ?_⟩
        · unfold SeqAt.shaped
          rw [show PyData.tuple (toPys xs) = toPy (.tup xs) from rfl, q2.1, decide_eq_true (by omega : (toPy (.tup xs)).depth ≤ 64)] <;> rfl
        · rw [← memD_toPy hp.1 xs hp.2]
          exact fin _ e2.symm
      · cases e
    · rename_i xs
      split at e
      · rename_i hp
        simp only [Bool.and_eq_true] at hp
        cases e
        have pt : plain 61 (.lst xs) = true := by simp only [plain]; exact hp.2
        have q2 := plain_lay _ 61 pt
        refine op_notInD hu pins s σ H x y v u Q I rx ry ⟨_, toPys xs, rep_dp a' 60 hp.1 ha', by simpa [toPy] using rep_dp _ 61 pt hb', shaped_toPy hp.1, ?_, ?_⟩
        · unfold SeqAt.shaped
          rw [show PyData.list (toPys xs) = toPy (.lst xs) from rfl, q2.1, decide_eq_true (by omega : (toPy (.lst xs)).depth ≤ 64)] <;> rfl
        · rw [← memD_toPy hp.1 xs hp.2]
          exact fin _ e2.symm
      · cases e
    · cases e
  | is_ =>
    simp only [cmpD, Option.map_eq_some_iff] at e
    obtain ⟨k, e, e2⟩ := e
    have nn : ∀ k, b' = .non → decide (x = V.non) = k → d = .bl k → wpAny (model X.prog X.w) X.A (compareOp .Is v u) (EP X pins σ Q) X.xe s := fun k eb ek ed => by
      subst eb
      simp only [Rep] at hb'
      exact op_isN pins s σ H x y v u Q I rx ry ⟨hb', by rw [ek]; exact fin _ ed⟩
    unfold isD at e
    split at e
    all_goals first
      | (cases e; simp only [Rep] at ha'; exact nn _ rfl (decide_eq_true ha') e2.symm)
      | (cases e; simp only [Rep] at ha'; exact nn _ rfl (decide_eq_false (by rw [ha']; exact fun z => nomatch z)) e2.symm)
      | (cases e; simp only [Rep] at ha'; obtain ⟨p, vs, e3, _⟩ := ha'; exact nn _ rfl (decide_eq_false (by rw [e3]; exact fun z => nomatch z)) e2.symm)
      | (cases e; simp only [Rep] at ha'; obtain ⟨p, e3, _⟩ := ha'; exact nn _ rfl (decide_eq_false (by rw [e3]; exact fun z => nomatch z)) e2.symm)
      | (cases e; simp only [Rep] at ha' hb'; exact op_isBl pins s σ H x y v u Q I rx ry ⟨_, _, ha', hb', fin _ e2.symm⟩)
      | cases e
  | isnot =>
    simp only [cmpD, Option.map_eq_some_iff] at e
    obtain ⟨k, e, e2⟩ := e
    have nn : ∀ k, b' = .non → decide (x = V.non) = k → d = .bl (!k) → wpAny (model X.prog X.w) X.A (compareOp .IsNot v u) (EP X pins σ Q) X.xe s := fun k eb ek ed => by
      subst eb
      simp only [Rep] at hb'
      exact op_notN pins s σ H x y v u Q I rx ry ⟨hb', by rw [ek]; exact fin _ ed⟩
    unfold isD at e
    split at e
    all_goals first
      | (cases e; simp only [Rep] at ha'; exact nn _ rfl (decide_eq_true ha') e2.symm)
      | (cases e; simp only [Rep] at ha'; exact nn _ rfl (decide_eq_false (by rw [ha']; exact fun z => nomatch z)) e2.symm)
      | (cases e; simp only [Rep] at ha'; obtain ⟨p, vs, e3, _⟩ := ha'; exact nn _ rfl (decide_eq_false (by rw [e3]; exact fun z => nomatch z)) e2.symm)
      | (cases e; simp only [Rep] at ha'; obtain ⟨p, e3, _⟩ := ha'; exact nn _ rfl (decide_eq_false (by rw [e3]; exact fun z => nomatch z)) e2.symm)
      | (cases e; simp only [Rep] at ha' hb'; exact op_notBl pins s σ H x y v u Q I rx ry ⟨_, _, ha', hb', fin _ e2.symm⟩)
      | cases e
end
end Pv
end
section
set_option maxRecDepth 100000
set_option maxHeartbeats 4000000
namespace Pv
open PySem PySem.Spec PyProof.Rows L2
section
variable {prog : Program} {w : World} {A : Around} {E : Value → Shared → Prop} {s : Shared} {l : Addr} {its : List Value} {ns : List Int} {Q : Value → Shared → Prop} {xs : Array (Int × Tok)}
theorem iter_intTup (hl : s.heap.IsTuple l (intItems xs))
    (h : ∀ s₂ : Shared, s₂ = { s with heap := s.heap.push { cls := .type "tuple_iterator", data := .fields #[.ref l, .int 0 0] } } →
      (s₂.heap.IsTupleIter s.heap.objs.size l 0 ∧ s₂.heap.IsTuple l (intItems xs)) → (∀ b ∈ [s.heap.objs.size, l], b < s₂.heap.objs.size) → l ≠ s.heap.objs.size → Q (.ref s.heap.objs.size) s₂) :
    wpAny (model prog w) A (pyIter (.ref l)) Q E s := by
  have hlt : l < s.heap.objs.size := by obtain ⟨_, e, _⟩ := hl; exact Heap.lt_size e
  refine wpAny_pyIter_tuple hl (h _ rfl ⟨⟨_, Heap.get?_push_size _ rfl, rfl, rfl⟩, ?_⟩ (fun b hb => ?_) (Nat.ne_of_lt hlt))
  · obtain ⟨o, e, r⟩ := hl
    exact ⟨o, Heap.get?_push_of_some _ e, r⟩
  show b < (s.heap.push _).objs.size
  rw [Heap.size_push]
  rcases List.mem_cons.mp hb with rfl | hb
  · exact Nat.lt_succ_self _
  · rcases List.mem_cons.mp hb with rfl | hb
    · exact Nat.lt_succ_of_lt hlt
    · cases hb
theorem old_keptT {h' : Heap} (hk : ∀ b o, b ∉ [s.heap.objs.size] → (s.heap.push { cls := .type "tuple_iterator", data := .fields #[.ref l, .int 0 0] }).get? b = some o → h'.get? b = some o) :
    ∀ b o, s.heap.get? b = some o → h'.get? b = some o := fun b o e => by
  refine hk b o (fun hm => ?_) (Heap.get?_push_of_some _ e)
  rcases List.mem_cons.mp hm with e1 | hm
  · exact absurd (e1 ▸ Heap.lt_size e) (Nat.lt_irrefl _)
  · cases hm
theorem max_intTup (hh : A.handled = none) (hl : s.heap.IsTuple l (intItems xs)) (hne : 0 < xs.size)
    (h : ∀ v h' tk, (intItems xs)[argBest (fun i j => decide (numAt xs i > numAt xs j)) (xs.size - 1)]? = some v → (∀ b o, s.heap.get? b = some o → h'.get? b = some o) → Q v { s with heap := h', toks := tk }) :
    wpAny (model prog w) A (call (.builtin "max") [.ref l]) Q E s := by
  refine call_max_walk (iter_intTup hl fun s₂ e st hfp hlI => ?_)
  subst e
  refine ⟨_, _, _, _, _, _, _, rfl, Walks.tuple (A := A.in1) hh _ l hlI (intItems xs), st, hfp, by simpa [intItems] using hne, CmpOf.ints_gt (numAt xs) (fun _ _ => intItems_at), fun v h' tk hP hk => ?_⟩
  exact h v h' tk (by simpa [intItems] using hP) (old_keptT hk)
theorem min_intTup (hh : A.handled = none) (hl : s.heap.IsTuple l (intItems xs)) (hne : 0 < xs.size)
    (h : ∀ v h' tk, (intItems xs)[argBest (fun i j => decide (numAt xs i < numAt xs j)) (xs.size - 1)]? = some v → (∀ b o, s.heap.get? b = some o → h'.get? b = some o) → Q v { s with heap := h', toks := tk }) :
    wpAny (model prog w) A (call (.builtin "min") [.ref l]) Q E s := by
  refine call_min_walk (iter_intTup hl fun s₂ e st hfp hlI => ?_)
  subst e
  refine ⟨_, _, _, _, _, _, _, rfl, Walks.tuple (A := A.in1) hh _ l hlI (intItems xs), st, hfp, by simpa [intItems] using hne, CmpOf.ints_lt (numAt xs) (fun _ _ => intItems_at), fun v h' tk hP hk => ?_⟩
  exact h v h' tk (by simpa [intItems] using hP) (old_keptT hk)
theorem sum_intTup (hh : A.handled = none) (hl : s.heap.IsTuple l (intItems xs))
    (h : ∀ h' tk t', (∀ b o, s.heap.get? b = some o → h'.get? b = some o) → Q (.int (preSum (numAt xs) xs.size) t') { s with heap := h', toks := tk }) :
    wpAny (model prog w) A (call (.builtin "sum") [.ref l]) Q E s := by
  refine call_sum_walkG (iter_intTup hl fun s₂ e st hfp hlI => ?_)
  subst e
  refine ⟨_, _, _, _, _, _, numAt xs, rfl, Walks.tuple (A := A.in1) hh _ l hlI (intItems xs), st, hfp, (fun _ _ => intItems_at), fun h' tk t' hk => ?_⟩
  have := h h' tk t' (old_keptT hk)
  simpa [intItems] using this
theorem sum_rawT (hh : A.handled = none) (hl : s.heap.IsTuple l its.toArray) (hi : IntsAre its ns)
    (h : ∀ h' tk t', (∀ b o, s.heap.get? b = some o → h'.get? b = some o) → Q (.int ns.sum t') { s with heap := h', toks := tk }) : wpAny (model prog w) A (call (.builtin "sum") [.ref l]) Q E s := by
  obtain ⟨xs, e⟩ := hi.allInts.items
  have hn : numsOf (intItems xs).toList = ns := by rw [← e]; exact hi.numsOf
  rw [nums_intItems] at hn
  rw [e] at hl
  refine sum_intTup hh hl fun h' tk t' hk => ?_
  have := h h' tk t' hk
  rw [preSum_eq, List.take_of_length_le (by simp), hn]; exact this
theorem max_rawT (hh : A.handled = none) (hl : s.heap.IsTuple l its.toArray) (hi : IntsAre its ns) (hne : 0 < ns.length)
    (h : ∀ h' tk M t', (∀ b o, s.heap.get? b = some o → h'.get? b = some o) → M ∈ ns → (∀ a, a ∈ ns → a ≤ M) → Q (.int M t') { s with heap := h', toks := tk }) : wpAny (model prog w) A (call (.builtin "max") [.ref l]) Q E s := by
  obtain ⟨xs, e⟩ := hi.allInts.items
  have hn : numsOf (intItems xs).toList = ns := by rw [← e]; exact hi.numsOf
  rw [nums_intItems] at hn
  subst hn
  rw [e] at hl
  have hsz : 0 < xs.size := by simpa using hne
  refine max_intTup hh hl hsz fun v h' tk hv hk => ?_
  obtain ⟨t, rfl⟩ := intItems_at hv
  obtain ⟨h1, h2⟩ := argBest_gt (numAt xs) (xs.size - 1)
  refine h h' tk _ t hk ?_ fun a ha => ?_
  · rw [numAt_eq]; exact PySem.getD_mem (by rw [List.length_map, Array.length_toList]; omega)
  · obtain ⟨j, hj, rfl⟩ := mem_getD ha
    rw [List.length_map, Array.length_toList] at hj
    rw [← numAt_eq]; exact h2 j (by omega)
theorem min_rawT (hh : A.handled = none) (hl : s.heap.IsTuple l its.toArray) (hi : IntsAre its ns) (hne : 0 < ns.length)
    (h : ∀ h' tk M t', (∀ b o, s.heap.get? b = some o → h'.get? b = some o) → M ∈ ns → (∀ a, a ∈ ns → M ≤ a) → Q (.int M t') { s with heap := h', toks := tk }) : wpAny (model prog w) A (call (.builtin "min") [.ref l]) Q E s := by
  obtain ⟨xs, e⟩ := hi.allInts.items
  have hn : numsOf (intItems xs).toList = ns := by rw [← e]; exact hi.numsOf
  rw [nums_intItems] at hn
  subst hn
  rw [e] at hl
  have hsz : 0 < xs.size := by simpa using hne
  refine min_intTup hh hl hsz fun v h' tk hv hk => ?_
  obtain ⟨t, rfl⟩ := intItems_at hv
  obtain ⟨h1, h2⟩ := argBest_lt (numAt xs) (xs.size - 1)
  refine h h' tk _ t hk ?_ fun a ha => ?_
  · rw [numAt_eq]; exact PySem.getD_mem (by rw [List.length_map, Array.length_toList]; omega)
  · obtain ⟨j, hj, rfl⟩ := mem_getD ha
    rw [List.length_map, Array.length_toList] at hj
    rw [← numAt_eq]; exact h2 j (by omega)
end
/-! ### least and greatest -/
theorem minZ_le : ∀ (r : List Int) (m : Int), minZ m r ≤ m ∧ ∀ x ∈ r, minZ m r ≤ x
  | [], m => ⟨Int.le_refl _, by simp⟩
  | x :: r, m => by
    have ih := minZ_le r (if x < m then x else m)
    unfold minZ
    refine ⟨?_, fun y hy => ?_⟩
    · have := ih.1
      split at this <;> omega
    · rcases List.mem_cons.mp hy with e | hy
      · subst e
        have := ih.1
        split at this <;> omega
      · exact ih.2 y hy
theorem minZ_mem : ∀ (r : List Int) (m : Int), minZ m r ∈ m :: r
  | [], m => by simp [minZ]
  | x :: r, m => by
    have ih := minZ_mem r (if x < m then x else m)
    unfold minZ
    split at ih
    · rename_i h
      rw [if_pos h]
      exact List.mem_cons_of_mem _ ih
    · rename_i h
      rw [if_neg h]
      rcases List.mem_cons.mp ih with e | e
      · rw [e]; exact List.mem_cons_self
      · exact List.mem_cons_of_mem _ (List.mem_cons_of_mem _ e)
theorem minZ_eq {m : Int} {r : List Int} {k : Int} (h1 : k ∈ m :: r) (h2 : ∀ y, y ∈ m :: r → k ≤ y) : k = minZ m r := by
  have a := h2 _ (minZ_mem r m)
  have b := minZ_le r m
  have c : minZ m r ≤ k := by
    rcases List.mem_cons.mp h1 with e | e
    · rw [e]; exact b.1
    · exact b.2 k e
  omega
theorem maxZ_le : ∀ (r : List Int) (m : Int), m ≤ maxZ m r ∧ ∀ x ∈ r, x ≤ maxZ m r
  | [], m => ⟨Int.le_refl _, by simp⟩
  | x :: r, m => by
    have ih := maxZ_le r (if x > m then x else m)
    unfold maxZ
    refine ⟨?_, fun y hy => ?_⟩
    · have := ih.1
      split at this <;> omega
    · rcases List.mem_cons.mp hy with e | hy
      · subst e
        have := ih.1
        split at this <;> omega
      · exact ih.2 y hy
theorem maxZ_mem : ∀ (r : List Int) (m : Int), maxZ m r ∈ m :: r
  | [], m => by simp [maxZ]
  | x :: r, m => by
    have ih := maxZ_mem r (if x > m then x else m)
    unfold maxZ
    split at ih
    · rename_i h
      rw [if_pos h]
      exact List.mem_cons_of_mem _ ih
    · rename_i h
      rw [if_neg h]
      rcases List.mem_cons.mp ih with e | e
      · rw [e]; exact List.mem_cons_self
      · exact List.mem_cons_of_mem _ (List.mem_cons_of_mem _ e)
theorem maxZ_eq {m : Int} {r : List Int} {k : Int} (h1 : k ∈ m :: r) (h2 : ∀ y, y ∈ m :: r → y ≤ k) : k = maxZ m r := by
  have a := h2 _ (maxZ_mem r m)
  have b := maxZ_le r m
  have c : k ≤ maxZ m r := by
    rcases List.mem_cons.mp h1 with e | e
    · rw [e]; exact b.1
    · exact b.2 k e
  omega
/-! ### built-in functions -/
def biName : BI → Str
  | .len => "len" | .abs => "abs" | .int => "int" | .sum => "sum" | .min => "min" | .max => "max" | .all => "all" | .any => "any" | .tuple => "tuple" | .list => "list" | .sorted => "sorted" | .gcd => "gcd" | .comb => "comb"
def biVal : BI → Value
  | .len => .builtin "len" | .abs => .builtin "abs" | .int => .type "int" | .sum => .builtin "sum" | .min => .builtin "min" | .max => .builtin "max" | .all => .builtin "all" | .any => .builtin "any"
  | .tuple => .type "tuple" | .list => .type "list" | .sorted => .builtin "sorted" | .gcd => .builtin "math.gcd" | .comb => .builtin "math.comb"
/-- the cells read -/
def RdV (K : PySem.W.Frag) (W : Wd) (H : Hp) (d : D) (v : V) : Prop :=
  match d with
  | .lst ds => ∃ p vs, v = .ref p ∧ SqL K H p vs ∧ Reps K W H ds vs
  | d => Rep K W H d v
section
variable {K : PySem.W.Frag} {W : Wd} {H : Hp} {s : Sto}
theorem rdv {d : D} {v : V} (R : RelSt K W s H) (r : Rep K W H d v) : RdV K W H (rd s d) v := by
  rcases rd_cases R r with q | ⟨ds, p, vs, q, q2, q3, q4⟩
  · rw [q]
    cases d with
    | lst ds =>
      simp only [Rep] at r
      obtain ⟨a, vs, e1, e2, e3⟩ := r
      exact ⟨a, vs, e1, e2.sq, e3⟩
    | _ => exact r
  · rw [q]
    exact ⟨p, vs, q2, q3, q4⟩
theorem reps_rdv (R : RelSt K W s H) : ∀ {ds : List D} {vs : List V}, Reps K W H ds vs → Paired (RdV K W H) (ds.map (rd s)) vs
  | [], _, h => by simp only [Reps] at h; subst h; exact .nil
  | d :: ds, _, h => by
    simp only [Reps] at h
    obtain ⟨v, r, e, h1, h2⟩ := h
    subst e
    exact .cons (rdv R h1) (reps_rdv R h2)
/-- a list or a tuple read -/
theorem seqD_get {d : D} {v : V} {xs : List D} (h : RdV K W H d v) (e : seqD d = some xs) : ∃ p vs, v = .ref p ∧ (SqL K H p vs ∨ SqT K H p vs) ∧ Reps K W H xs vs := by
  cases d with
  | tup ds =>
    cases e
    have h : Rep K W H (.tup _) v := h
    simp only [Rep] at h
    obtain ⟨a, vs, e1, e2, e3⟩ := h
    exact ⟨a, vs, e1, .inr e2, e3⟩
  | lst ds =>
    cases e
    obtain ⟨p, vs, e1, e2, e3⟩ := h
    exact ⟨p, vs, e1, .inl e2, e3⟩
  | _ => cases e
end
def rBi (K : PySem.W.Frag) (b : BI) : List V → Hp → VK → Prop := fun vs H Q => ∃ W s xs d, RelSt K W s H ∧ Paired (RdV K W H) xs vs ∧ biD b xs = some d ∧ ∀ v H', Got K (match b with | .list => true | _ => false) W H W s H' d v → Q v H'
section
variable {X : Cx}
theorem paired1 {α β : Type} {F : α → β → Prop} {a : α} {vs : List β} (h : Paired F [a] vs) : ∃ v, vs = [v] ∧ F a v := by
  cases h with
  | cons r t => cases t; exact ⟨_, rfl, r⟩
theorem paired2 {α β : Type} {F : α → β → Prop} {a b : α} {vs : List β} (h : Paired F [a, b] vs) : ∃ v u, vs = [v, u] ∧ F a v ∧ F b u := by
  cases h with
  | cons r t => cases t with
    | cons r2 t2 => cases t2; exact ⟨_, _, rfl, r, r2⟩
theorem call_bi (hc : X.calm = true) (b : BI) : CallR X (biVal b) (rBi X.K b) := by
  intro pins s σ H vs us Q I r h
  obtain ⟨W, st, xs, d, R, P, e, q⟩ := h
  have bg := big_eq
  have fin : ∀ (v : V), Rep X.K W H d v → d.isLst = false → Q v H := fun v rv hl => q v H (Got.val R rv hl)
  have hh := I.ok.hd hc
  unfold biD at e
  split at e
  · obtain ⟨v, rfl, h1⟩ := paired1 P
    cases e
    have h1 : Rep X.K W H (.tup _) v := h1
    simp only [Rep] at h1
    obtain ⟨a, ws, e1, e2, e3⟩ := h1
    exact call_len_seq pins s σ H _ us Q I r ⟨a, ws, by rw [e1], .inr e2, fin _ (by simp only [Rep]; rw [e3.length]) rfl⟩
  · obtain ⟨v, rfl, h1⟩ := paired1 P
    cases e
    obtain ⟨a, ws, e1, e2, e3⟩ := h1
    exact call_len_seq pins s σ H _ us Q I r ⟨a, ws, by rw [e1], .inl e2, fin _ (by simp only [Rep]; rw [e3.length]) rfl⟩
  · obtain ⟨v, rfl, h1⟩ := paired1 P
    split at e
    · rename_i hz
      cases e
      have h1 : v = .str _ := h1
      exact call_len_str pins s σ H _ us Q I r ⟨_, by rw [h1], by rw [← bg]; exact hz, fin _ rfl rfl⟩
    · cases e
  · obtain ⟨v, rfl, h1⟩ := paired1 P
    cases e
    have h1 : v = .int _ := h1
    exact call_abs pins s σ H _ us Q I r ⟨_, by rw [h1], fin _ rfl rfl⟩
  · obtain ⟨v, rfl, h1⟩ := paired1 P
    cases e
    have h1 : v = .int _ := h1
    exact call_int1 pins s σ H _ us Q I r (.inl ⟨_, by rw [h1], fin _ rfl rfl⟩)
  · obtain ⟨v, rfl, h1⟩ := paired1 P
    cases e
    have h1 : v = .bl _ := h1
    exact call_int1 pins s σ H _ us Q I r (.inr ⟨_, by rw [h1], fin _ rfl rfl⟩)
  · obtain ⟨v, rfl, h1⟩ := paired1 P
    split at e
    · rename_i ys hs
      simp only [Option.map_eq_some_iff] at e
      obtain ⟨ns, e1, e2⟩ := e
      subst e2
      obtain ⟨p, ws, rfl, sq, rp⟩ := seqD_get h1 hs
      rw [intsD_eq e1] at rp
      rw [reps_ints rp] at sq
      rcases sq with sq | sq
      · exact cr_sum hc pins s σ H _ us Q I r ⟨p, ns, rfl, sq, fin _ rfl rfl⟩
      · obtain ⟨its, rv, ht, _⟩ := I.tuple sq
        rw [Vals.ref1 r]
        exact sum_rawT hh ht rv.ints fun h' tk t' hk => ⟨.int _, H, I.kept hk, ⟨_, rfl⟩, fin _ rfl rfl⟩
    · cases e
  · obtain ⟨v, u, rfl, h1, h2⟩ := paired2 P
    cases e
    have h1 : v = .int _ := h1
    have h2 : u = .int _ := h2
    exact call_min2 hc pins s σ H _ us Q I r ⟨_, _, by rw [h1, h2], fin _ rfl rfl⟩
  · obtain ⟨v, u, rfl, h1, h2⟩ := paired2 P
    cases e
    have h1 : v = .int _ := h1
    have h2 : u = .int _ := h2
    exact call_max2 hc pins s σ H _ us Q I r ⟨_, _, by rw [h1, h2], fin _ rfl rfl⟩
  · obtain ⟨v, rfl, h1⟩ := paired1 P
    split at e
    · rename_i ys hs
      split at e
      · rename_i m t e1
        cases e
        obtain ⟨p, ws, rfl, sq, rp⟩ := seqD_get h1 hs
        rw [intsD_eq e1] at rp
        rw [reps_ints rp] at sq
        rcases sq with sq | sq
        · exact cr_min hc pins s σ H _ us Q I r ⟨p, m :: t, rfl, sq, by simp, fun k h1 h2 => fin _ (by simp only [Rep]; rw [minZ_eq h1 h2]) rfl⟩
        · obtain ⟨its, rv, ht, _⟩ := I.tuple sq
          rw [Vals.ref1 r]
          exact min_rawT (ns := m :: t) hh ht rv.ints (by simp) fun h' tk k t' hk h1 h2 => ⟨.int _, H, I.kept hk, ⟨_, rfl⟩, fin _ (by simp only [Rep]; rw [minZ_eq h1 h2]) rfl⟩
      · cases e
    · cases e
  · obtain ⟨v, rfl, h1⟩ := paired1 P
    split at e
    · rename_i ys hs
      split at e
      · rename_i m t e1
        cases e
        obtain ⟨p, ws, rfl, sq, rp⟩ := seqD_get h1 hs
        rw [intsD_eq e1] at rp
        rw [reps_ints rp] at sq
        rcases sq with sq | sq
        · exact cr_max hc pins s σ H _ us Q I r ⟨p, m :: t, rfl, sq, by simp, fun k h1 h2 => fin _ (by simp only [Rep]; rw [maxZ_eq h1 h2]) rfl⟩
        · obtain ⟨its, rv, ht, _⟩ := I.tuple sq
          rw [Vals.ref1 r]
          exact max_rawT (ns := m :: t) hh ht rv.ints (by simp) fun h' tk k t' hk h1 h2 => ⟨.int _, H, I.kept hk, ⟨_, rfl⟩, fin _ (by simp only [Rep]; rw [maxZ_eq h1 h2]) rfl⟩
      · cases e
    · cases e
  · obtain ⟨v, rfl, h1⟩ := paired1 P
    simp only [Option.map_eq_some_iff] at e
    obtain ⟨ns, e1, e2⟩ := e
    subst e2
    obtain ⟨p, ws, rfl, sq, rp⟩ := h1
    rw [blsD_eq e1] at rp
    rw [reps_bls rp] at sq
    exact cr_all hc pins s σ H _ us Q I r ⟨p, ns, rfl, sq, fin _ rfl rfl⟩
  · obtain ⟨v, rfl, h1⟩ := paired1 P
    simp only [Option.map_eq_some_iff] at e
    obtain ⟨ns, e1, e2⟩ := e
    subst e2
    obtain ⟨p, ws, rfl, sq, rp⟩ := h1
    rw [blsD_eq e1] at rp
    rw [reps_bls rp] at sq
    exact cr_any hc pins s σ H _ us Q I r ⟨p, ns, rfl, sq, fin _ rfl rfl⟩
  · obtain ⟨v, rfl, h1⟩ := paired1 P
    simp only [Option.map_eq_some_iff] at e
    obtain ⟨ys, e1, e2⟩ := e
    subst e2
    obtain ⟨p, ws, rfl, sq, rp⟩ := seqD_get h1 e1
    refine call_tuple_of pins s σ H _ us Q I r ⟨p, ws, rfl, ?_⟩
    rcases sq with sq | sq
    · exact .inl ⟨sq, fun l hl => q _ _ (Got.tupNew R rp hl)⟩
    · exact .inr ⟨sq, fin _ ⟨p, ws, rfl, sq, rp⟩ rfl⟩
  · obtain ⟨v, rfl, h1⟩ := paired1 P
    simp only [Option.map_eq_some_iff] at e
    obtain ⟨ys, e1, e2⟩ := e
    subst e2
    obtain ⟨p, ws, rfl, sq, rp⟩ := seqD_get h1 e1
    exact call_list_of pins s σ H _ us Q I r ⟨p, ws, rfl, sq, fun l hl => q _ _ (Got.lstNew R rp hl)⟩
  · obtain ⟨v, u, rfl, h1, h2⟩ := paired2 P
    cases e
    have h1 : v = .int _ := h1
    have h2 : u = .int _ := h2
    exact cr_gcd pins s σ H _ us Q I r ⟨_, _, by rw [h1, h2], fin _ rfl rfl⟩
  · cases e
end
end Pv
end
section
set_option maxRecDepth 100000
set_option maxHeartbeats 4000000
namespace Pv
open PySem PySem.Spec PyProof.Rows L2
section
variable {K : PySem.W.Frag} {W : Wd} {H : Hp} {s : Sto}
theorem atD_get {ds : List D} {vs : List V} {i : Int} {d : D} (r : Reps K W H ds vs) (h : atD ds i = some d) : ∃ v, atI vs i = some v ∧ Rep K W H d v := by
  have hl := r.length
  unfold atD at h
  unfold atI ixN
  split at h
  · rename_i h0
    rw [if_pos h0]
    obtain ⟨v, e, q⟩ := r.get h
    have := (List.getElem?_eq_some_iff.mp e).1
    rw [if_pos (by omega)]
    exact ⟨v, e, q⟩
  · rename_i h0
    rw [if_neg h0]
    split at h
    · rename_i h1
      obtain ⟨v, e, q⟩ := r.get h
      rw [if_pos (by omega), ← hl]
      exact ⟨v, e, q⟩
    · cases h
end
def rIdx (K : PySem.W.Frag) : R2 := fun x y H Q => ∃ W s a b d, RelSt K W s H ∧ Rep K W H a x ∧ Rep K W H b y ∧ idxD (rd s a) b = some d ∧ ∀ v H', Got K false W H W s H' d v → Q v H'
def rSlc (K : PySem.W.Frag) : V → Option Int → Option Int → Hp → VK → Prop := fun x lo hi H Q => ∃ W s a d, RelSt K W s H ∧ Rep K W H a x ∧ slcD (rd s a) lo hi = some d ∧ ∀ v H', Got K true W H W s H' d v → Q v H'
section
variable {X : Cx}
theorem ix_idx : IxR X (rIdx X.K) := by
  intro value slice pins s σ H x y v u Q I rx ry h hs
  obtain ⟨W, st, a, b, d, R, ha, hb, e, q⟩ := h
  have bg := big_eq
  unfold idxD at e
  split at e
  · rename_i xs i h1
    obtain ⟨p, vs, e1, t, r⟩ := rd_tup R ha h1
    obtain ⟨z, ez, rz⟩ := atD_get r e
    have hb : y = .int i := hb
    exact ix_seq value slice pins s σ H x y v u Q I rx ry (.inr (.inl ⟨p, vs, i, z, e1, hb, t, ez, q _ _ (Got.old R rz)⟩)) hs
  · rename_i xs i h1
    obtain ⟨p, vs, e1, t, r⟩ := rd_lst R ha h1
    obtain ⟨z, ez, rz⟩ := atD_get r e
    have hb : y = .int i := hb
    exact ix_seq value slice pins s σ H x y v u Q I rx ry (.inl ⟨p, vs, i, z, e1, hb, t, ez, q _ _ (Got.old R rz)⟩) hs
  · rename_i z i h1
    split at e
    · rename_i hz
      simp only [Option.map_eq_some_iff] at e
      obtain ⟨c, e1, e2⟩ := e
      subst e2
      have hb : y = .int i := hb
      refine ix_seq value slice pins s σ H x y v u Q I rx ry (.inr (.inr ⟨z, i, c, rd_str R ha h1, hb, by rw [← bg]; exact hz.2, ?_, q _ _ (Got.old R rfl)⟩)) hs
      unfold atI ixN
      have := (List.getElem?_eq_some_iff.mp e1).1
      rw [if_pos hz.1, if_pos (by omega)]
      exact e1
    · cases e
  · cases e
theorem cutAt_eq (n d : Nat) (o : Option Int) : cutAt n d o = HT.sIx n d o := by cases o <;> rfl
theorem Reps.cutV {K : PySem.W.Frag} {W : Wd} {H : Hp} {ds : List D} {vs : List V} (r : Reps K W H ds vs) (lo hi : Option Int) : Reps K W H (cutD ds lo hi) (L2.cutV vs lo hi) := by
  unfold cutD L2.cutV
  rw [cutAt_eq, cutAt_eq, r.length]
  exact (r.drop _).take _
theorem sl_slc : SlR X (rSlc X.K) := by
  intro pins s σ H x v vl vu lo hi sl Q I rx hs pl pu h
  obtain ⟨W, st, a, d, R, ha, e, q⟩ := h
  unfold slcD at e
  split at e
  · rename_i xs h1
    cases e
    obtain ⟨p, vs, e1, t, r⟩ := rd_tup R ha h1
    refine sl_tupA pins s σ H x v vl vu lo hi sl Q I rx hs pl pu ⟨p, vs, e1, t, fun w => ?_, fun _ p3 n3 => q _ _ (Got.tupNew R (r.cutV lo hi) n3)⟩
    refine q _ _ (Got.val R ?_ rfl)
    have ec : cutD xs lo hi = xs := by
      unfold cutD
      rw [cutAt_eq, cutAt_eq, r.length, w.1, w.2, List.drop_zero, Nat.sub_zero]
      exact List.take_of_length_le (by rw [r.length]; exact Nat.le_refl _)
    rw [ec]
    exact ⟨p, vs, rfl, t, r⟩
  · rename_i xs h1
    cases e
    obtain ⟨p, vs, e1, t, r⟩ := rd_lst R ha h1
    exact sl_list pins s σ H x v vl vu lo hi sl Q I rx hs pl pu ⟨p, vs, e1, t, fun p3 n3 => q _ _ (Got.lstNew R (r.cutV lo hi) n3)⟩
  · cases e
end
/-! ### t[::-1] -/
section
variable {prog : Program} {w : World} {A : Around} {E : Value → Shared → Prop} {s : Shared}
theorem sliceApplied_rev {sl : Addr} {tk : Tok} {n : Nat} {Q : Int × Int × Nat → Shared → Prop} (hs : s.heap.IsSliceOf sl .none .none (.int (-1) tk))
    (h : Q ((n : Int) - 1, -1, n) s) : wpAny (model prog w) A (Builtin.Slice.sliceApplied (.ref sl) (pure (n : Int))) Q E s := by
  obtain ⟨os, hos, hcs, hds⟩ := id hs
  unfold Builtin.Slice.sliceApplied Builtin.Slice.sliceFields
  refine wpAny_bind (wpAny_bind (wpAny_field hos hds (x := .none) rfl (wpAny_bind (wpAny_field hos hds (x := .none) rfl (wpAny_bind (wpAny_field hos hds (x := .int (-1) tk) rfl (wpAny_pure ?_)))))))
  refine wpAny_bind (HT.slicePart_ (.int (-1) tk) ?_)
  show wpAny _ _ (if ((-1 : Int) == 0) = true then _ else _) _ _ s
  rw [if_neg (by decide)]
  refine wpAny_bind (HT.slicePart_ .none (wpAny_bind (HT.slicePart_ .none (wpAny_bind (wpAny_pure ?_)))))
  show wpAny _ _ (match Builtin.Slice.sliceAdjust none none (-1) (n : Int) with | (lo, hi) => pure (lo, (-1 : Int), Builtin.Slice.slicePlaces lo hi (-1))) _ _ s
  have e : Builtin.Slice.sliceAdjust none none (-1) (n : Int) = ((n : Int) - 1, -1) := by
    unfold Builtin.Slice.sliceAdjust
    simp
  rw [e]
  have e2 : Builtin.Slice.slicePlaces ((n : Int) - 1) (-1) (-1) = n := by
    unfold Builtin.Slice.slicePlaces
    rw [if_neg (by decide)]
    by_cases hn : (n : Int) - 1 > -1
    · rw [if_pos hn]
      have : ((n : Int) - 1 - -1 - 1) / (- -1) + 1 = n := by
        rw [show (- -1 : Int) = 1 by decide, Int.ediv_one]
        omega
      rw [this]
      omega
    · rw [if_neg hn]
      omega
  show wpAny _ _ (pure ((n : Int) - 1, (-1 : Int), Builtin.Slice.slicePlaces ((n : Int) - 1) (-1) (-1))) _ _ s
  rw [e2]
  exact wpAny_pure h
theorem filterMap_cong {α β : Type} {f g : α → Option β} : ∀ {l : List α}, (∀ a ∈ l, f a = g a) → l.filterMap f = l.filterMap g
  | [], _ => rfl
  | x :: r, h => by
    rw [List.filterMap_cons, List.filterMap_cons, h x List.mem_cons_self, filterMap_cong fun a ha => h a (List.mem_cons_of_mem _ ha)]
theorem pick_rev (xs : Array Value) : ((List.range xs.size).filterMap fun (m : Nat) => xs[((xs.size : Int) - 1 + (m : Int) * (-1)).toNat]?) = xs.toList.reverse := by
  have e : ((List.range xs.size).filterMap fun (m : Nat) => xs[((xs.size : Int) - 1 + (m : Int) * (-1)).toNat]?) = (List.range xs.size).filterMap fun m => xs.toList.reverse[m]? := by
    refine filterMap_cong fun m hm => ?_
    have hm := List.mem_range.mp hm
    rw [List.getElem?_reverse (by simpa using hm)]
    have : ((xs.size : Int) - 1 + (m : Int) * (-1)).toNat = xs.toList.length - 1 - m := by
      rw [Array.length_toList]
      omega
    rw [this]
    simp
  rw [e]
  have : ∀ l : List Value, ((List.range l.length).filterMap fun m => l[m]?) = l := by
    intro l
    induction l with
    | nil => rfl
    | cons x r ih =>
      rw [List.length_cons, List.range_succ_eq_map, List.filterMap_cons]
      simp only [List.getElem?_cons_zero, List.filterMap_map]
      congr 1
  have h2 := this xs.toList.reverse
  rw [List.length_reverse, Array.length_toList] at h2
  exact h2
theorem getItem_tuple_rev {t sl : Addr} {items : Array Value} {tk : Tok} {Q : Value → Shared → Prop} (ht : IsTup s.heap t items) (hs : s.heap.IsSliceOf sl .none .none (.int (-1) tk))
    (h : Q (.ref s.heap.objs.size) { s with heap := s.heap.push { cls := .type "tuple", data := .seq items.toList.reverse.toArray } })
    (hsz : items.size ≤ sizeLine) : wpAny (model prog w) A (getItem (.ref t) (.ref sl)) Q E s := by
  have htake : sizeOk (.seq items.toList.reverse.toArray) := by
    show items.toList.reverse.toArray.size ≤ sizeLine
    rw [List.size_toArray, List.length_reverse, Array.length_toList]
    omega
  obtain ⟨os, hos, hcs, hds⟩ := id hs
  have hTs : s.TypeIs (.ref sl) "slice" := ⟨os, hos, hcs⟩
  unfold getItem
  try with_reducible refine wpAny_holding ?_
  first | refine wpAny_bind (wpAny_pure ?_) | skip
  refine wpAny_bind (wpAny_sequenceKey ht.typeIs (by decide) ?_)
  refine wpAny_bind (wpAny_callSpecial?_slot (name := Str.ofString "__getitem__") ht.typeIs PyProof.Rows.slot_tuple_getitem
    (wpAny_call_entry PyProof.Rows.slot_tuple_getitem ht.typeIs entry_tuple_getitem ?_ (args_tuple_getitem _ _)))
  show wpAny _ _ (Builtin.Tuple.tupleItemsOf (.ref t) >>= _) _ _ s
  refine wpAny_bind (PyProof.Rows.tupleItemsOf_ ht ?_)
  refine wpAny_bind (wpAny_typeOf hTs ?_)
  rw [if_pos (by decide)]
  refine wpAny_bind (sliceApplied_rev hs ?_)
  show wpAny _ _ (if (((items.size : Int) - 1) == 0 && (-1 : Int) == 1 && items.size == items.size) = true then _ else _) _ _ s
  rw [if_neg (by simp), pick_rev]
  first
    | exact wpAny_bind (m := Builtin.Tuple.tupleExact _) (wpAny_newObj_type (wpAny_pure ⟨_, rfl, wpAny_pure h⟩) htake)
    | exact wpAny_bind (m := Builtin.Tuple.tupleExact _) (wpAny_newObj_type (wpAny_bind (wpAny_pure (wpAny_pure ⟨_, rfl, wpAny_pure h⟩))) htake)
    | exact wpAny_bind (wpAny_bind (m := Builtin.Tuple.tupleExact _) (wpAny_newObj_type (wpAny_pure (wpAny_pure ⟨_, rfl, wpAny_pure h⟩)) htake))
    | exact wpAny_bind (wpAny_bind (m := Builtin.Tuple.tupleExact _) (wpAny_newObj_type (wpAny_pure ⟨_, rfl, wpAny_pure h⟩) htake))
end
section
variable {X : Cx}
/-- e[::-1], a tuple or a list -/
def tRevA (K : PySem.W.Frag) (te : TE) : TE := fun σ H Q => te σ H fun x H1 => ∃ a xs, x = .ref a ∧ ((SqL K H1 a xs ∧ ∀ p, H1 p = none → Q (.ref p) (upd H1 p (.lst xs.reverse))) ∨ (SqT K H1 a xs ∧ ∀ p, H1 p = none → Q (.ref p) (upd H1 p (.tup xs.reverse))))
theorem pe_revA {e : Expr} {te : TE} {k : Nat} {p1 p2 p3 pos : Pos} (he : PE X e te) : PE X (.Subscript e (.Slice none none (some (.UnaryOp .USub (.Constant (.int 1) k p1) p2)) p3) pos) (tRevA X.K te) := by
  refine ⟨fun pins s σ H Q I h => ?_⟩
  refine Subscript_ (thn (he.run pins s σ H _ I h) fun v s1 ⟨x, H1, I1, r1, q1⟩ => ?_)
  obtain ⟨a, xs, ex, q1⟩ := q1
  subst ex
  cases r1
  have hst : PO X (some (.UnaryOp .USub (.Constant (.int 1) k p1) p2)) (tPart (tUn (rU fun i => .int (-i)) (tC (.int 1)))) := po_some (pe_un un_neg pe_int)
  refine wpAny_Slice (thn (po_none.run pins s1 σ H1 (fun o H2 => o = none ∧ H2 = H1) I1 ⟨rfl, rfl⟩) fun vl s2 ⟨l, H2, I2, pl, el, e2⟩ => ?_)
  subst el e2
  refine thn (po_none.run pins s2 σ H2 (fun o H3 => o = none ∧ H3 = H2) I2 ⟨rfl, rfl⟩) fun vu s3 ⟨u, H3, I3, pu, eu, e3⟩ => ?_
  subst eu e3
  refine thn (hst.run pins s3 σ H3 (fun o H4 => o = some (-1) ∧ H4 = H3) I3 ⟨1, rfl, -1, rfl, rfl, rfl⟩) fun vs s4 ⟨o, H4, I4, ps, eo, e4⟩ => ?_
  subst eo e4
  have I5 : Inv X pins σ H4 { s4 with heap := s4.heap.push { cls := .type "slice", data := .fields #[vl, vu, vs] } } := I4.kept (t' := s4.toks) fun b ob q => Heap.get?_push_of_some _ q
  show wpAny (model X.prog X.w) X.A (subscriptTail e (.Slice none none (some (.UnaryOp .USub (.Constant (.int 1) k p1) p2)) p3) (.ref a) (.ref s4.heap.objs.size)) (EP X pins σ Q) X.xe { s4 with heap := s4.heap.push { cls := .type "slice", data := .fields #[vl, vu, vs] } }
  rcases q1 with ⟨hx, q⟩ | ⟨hx, q⟩
  · obtain ⟨its, r, ht, hz⟩ := I5.list hx
    have hlen := r.length
    refine tail_any (ops := [.ref a, .ref s4.heap.objs.size]) ht.isList.typeIs (PySem.slot_list_getitem.lookup) ?_ (by with_unfolding_all rfl)
    refine wpAny_getItem_list_slice ht.isList (Heap.IsSliceOf.new _ vl vu vs) pl pu ps (by decide) ?_ (by rw [List.size_toArray]; omega)
    rw [PySem.W.krv_pick]
    refine ⟨.ref _, _, I5.laid (t' := s4.toks) (o := .lst xs.reverse) (fun b ob q => Heap.get?_push_of_some _ q) (Nat.le_refl _) ?_, rfl, q _ (I5.hok.fresh (Nat.le_refl _))⟩
    exact ⟨by rw [List.length_reverse]; exact hz, _, 0, r.reverse, Heap.get?_push_size _ rfl⟩
  · obtain ⟨its, r, ht, hz⟩ := I5.tuple hx
    have hlen := r.length
    cases pl
    cases pu
    cases ps
    refine tail_any (ops := [.ref a, .ref s4.heap.objs.size]) ht.typeIs (PyProof.Rows.slot_tuple_getitem.lookup) ?_ (by with_unfolding_all rfl)
    refine getItem_tuple_rev ht (Heap.IsSliceOf.new _ _ _ _) ?_ (by rw [List.size_toArray]; omega)
    refine ⟨.ref _, _, I5.laid (t' := s4.toks) (o := .tup xs.reverse) (fun b ob q => Heap.get?_push_of_some _ q) (Nat.le_refl _) ?_, rfl, q _ (I5.hok.fresh (Nat.le_refl _))⟩
    exact ⟨by rw [List.length_reverse]; exact hz, _, r.reverse, IsTup.new _ _⟩
/-! ### one-place operators, isinstance -/
def rNeg (K : PySem.W.Frag) : V → Hp → VK → Prop := fun x H Q => ∃ W s a d, RelSt K W s H ∧ Rep K W H a x ∧ negD a = some d ∧ ∀ v H', Got K false W H W s H' d v → Q v H'
theorem un_negD : UnR X (unaryOp .USub) (rNeg X.K) := by
  intro pins s σ H x v Q I rx h
  obtain ⟨W, st, a, d, R, ha, e, q⟩ := h
  cases a with
  | int i =>
    cases e
    exact un_neg pins s σ H x v Q I rx ⟨i, ha, q _ _ (Got.val R rfl rfl)⟩
  | _ => cases e
def tyName : Ty → Str
  | .int => "int" | .bool => "bool" | .tuple => "tuple" | .list => "list" | .str => "str" | .exc _ => "?"
def tyStr : Ty → String
  | .int => "int" | .bool => "bool" | .tuple => "tuple" | .list => "list" | .str => "str" | .exc _ => "?"
def rIsiD (K : PySem.W.Frag) (t : Ty) : List V → Hp → VK → Prop := fun vs H Q => ∃ W s a x b, RelSt K W s H ∧ RdV K W H a x ∧ vs = [x, .ty (tyStr t)] ∧ isiD t a = some b ∧ Q (.bl b) H
theorem call_isiD (t : Ty) : CallR X (.builtin "isinstance") (rIsiD X.K t) := by
  intro pins s σ H vs us Q I r h
  obtain ⟨W, st, a, x, b, R, ha, rfl, e, q⟩ := h
  have go : ∀ (ta : String), TyX X.K H x (.type ta) → kitB ta (tyStr t) = some b → wpAny (model X.prog X.w) X.A (call (.builtin "isinstance") us) (EP X pins σ Q) X.xe s := fun ta ty k =>
    call_isi pins s σ H _ us Q I r ⟨x, .ty (tyStr t), .type ta, .type (tyStr t), b, rfl, .ty _, ty, kit_ty k, q⟩
  cases a with
  | non =>
    have ha : x = .non := ha
    subst ha
    refine go "NoneType" (.base .non) ?_
    cases t <;> cases e <;> decide +kernel
  | bl c =>
    have ha : x = .bl c := ha
    subst ha
    refine go "bool" (.base (.bl c)) ?_
    cases t <;> cases e <;> decide +kernel
  | int c =>
    have ha : x = .int c := ha
    subst ha
    refine go "int" (.base (.int c)) ?_
    cases t <;> cases e <;> decide +kernel
  | str c =>
    have ha : x = .str c := ha
    subst ha
    refine go "str" (.base (.str c)) ?_
    cases t <;> cases e <;> decide +kernel
  | tup ds =>
    have ha : Rep X.K W H (.tup ds) x := ha
    simp only [Rep] at ha
    obtain ⟨p, ws, e1, t1, _⟩ := ha
    subst e1
    refine go "tuple" ?_ ?_
    · rcases t1 with (t1 | ⟨o, t1⟩) | ⟨o, its, n, t1, t2, _⟩
      · exact .base (.tup t1)
      · exact .fTuple t1
      · exact .kTuple t1 t2
    · cases t <;> cases e <;> decide +kernel
  | lst ds =>
    obtain ⟨p, ws, e1, t1, _⟩ := ha
    subst e1
    refine go "list" ?_ ?_
    · rcases t1 with (t1 | ⟨o, t1⟩) | ⟨o, its, n, t1, t2, _⟩
      · exact .base (.lst t1)
      · exact .base (.frz t1)
      · exact .kList t1 t2
    · cases t <;> cases e <;> decide +kernel
  | dct _ _ => cases t <;> cases e
  | set _ => cases t <;> cases e
  | loc _ => cases t <;> cases e
/-! ### lists that change -/
/-- a cell's place -/
theorem loc_get {K : PySem.W.Frag} {W : Wd} {H : Hp} {s : Sto} {n : Nat} {xs : List D} {x : V} (R : RelSt K W s H) (r : Rep K W H (.loc n) x) (e : s.getD n .non = .lst xs) :
    ∃ a vs, x = .ref a ∧ W.rho[n]? = some a ∧ H a = some (.lst vs) ∧ Reps K W H xs vs := by
  simp only [Rep] at r
  obtain ⟨a, e1, q⟩ := r
  obtain ⟨ds, vs, c1, c2, c3, _⟩ := R.cell n a q
  rw [List.getD_eq_getElem?_getD, c1] at e
  cases e
  exact ⟨a, vs, e1, q, c2, c3⟩
theorem putC_ok {n : Nat} {c : D} {s : Sto} {s' : Sto} {u : Unit} (h : putC n c s = .ok u s') : n < s.length ∧ below n c = true ∧ s' = s.set n c := by
  unfold putC at h
  split at h
  · rename_i q
    simp only [Bool.and_eq_true, decide_eq_true_eq] at q
    cases h
    exact ⟨q.1, q.2, rfl⟩
  · cases h
/-- what a change of a cell leaves -/
structure Chg (K : PySem.W.Frag) (W : Wd) (H : Hp) (s' : Sto) (H' : Hp) : Prop where
  pres : Pres W H W H'
  st : RelSt K W s' H'
theorem chg {K : PySem.W.Frag} {W : Wd} {H : Hp} {s s' : Sto} {n : Nat} {ds : List D} {vs : List V} {a : Addr} {u : Unit} (R : RelSt K W s H) (ha : W.rho[n]? = some a) (r : Reps K W H ds vs) (h : putC n (.lst ds) s = .ok u s') : Chg K W H s' (upd H a (.lst vs)) := by
  obtain ⟨_, b, e⟩ := putC_ok h
  subst e
  simp only [below] at b
  obtain ⟨p, q⟩ := R.put ha r b
  exact ⟨q, p⟩
def rSetD (K : PySem.W.Frag) : TSet := fun o i v H Q => ∃ W s n k d xs ys s' u, RelSt K W s H ∧ Rep K W H (.loc n) o ∧ Rep K W H (.int k) i ∧ Rep K W H d v ∧ s.getD n .non = .lst xs ∧ setAt xs k d = some ys ∧ putC n (.lst ys) s = .ok u s' ∧ ∀ H', Chg K W H s' H' → Q H'
theorem set_D : PSet X (rSetD X.K) := by
  intro pins s σ H o i v ov iv u Q I ro ri rv h
  obtain ⟨W, st, n, k, d, xs, ys, s', u', R, ho, hi, hd, e1, e2, e3, q⟩ := h
  obtain ⟨a, vs, eo, ea, hH, r⟩ := loc_get R ho e1
  have hl := r.length
  have hi : i = .int k := hi
  unfold setAt at e2
  split at e2
  · rename_i hk
    cases e2
    refine set_list pins s σ H o i v ov iv u Q I ro ri rv ⟨a, vs, k, k.toNat, eo, hi, hH, ?_, q _ (chg R ea (r.set hd _) e3)⟩
    unfold ixN
    rw [if_pos hk.1, if_pos (by omega)]
  · split at e2
    · rename_i hk
      cases e2
      refine set_list pins s σ H o i v ov iv u Q I ro ri rv ⟨a, vs, k, (k + xs.length).toNat, eo, hi, hH, ?_, q _ (chg R ea (r.set hd _) e3)⟩
      unfold ixN
      rw [if_neg (by omega), if_pos (by omega), hl]
    · cases e2
def rAppD (K : PySem.W.Frag) : V → List V → Hp → VK → Prop := fun x vs H Q => ∃ W s n d y xs s' u, RelSt K W s H ∧ Rep K W H (.loc n) x ∧ vs = [y] ∧ Rep K W H d y ∧ s.getD n .non = .lst xs ∧ xs.length < big ∧ putC n (.lst (xs ++ [d])) s = .ok u s' ∧ ∀ H', Chg K W H s' H' → Q .non H'
theorem mt_appD : MtR X "list.append" (rAppD X.K) := by
  intro pins s σ H x vs v us Q I rx rv h
  obtain ⟨W, st, n, d, y, xs, s', u, R, hx, e0, hy, e1, e2, e3, q⟩ := h
  obtain ⟨a, ws, eo, ea, hH, r⟩ := loc_get R hx e1
  have hl := r.length
  exact mt_append pins s σ H x vs v us Q I rx rv ⟨a, ws, y, eo, e0, hH, by rw [← big_eq]; omega, q _ (chg R ea (r.append (Reps.one hy)) e3)⟩
def rExtD (K : PySem.W.Frag) : V → List V → Hp → VK → Prop := fun x vs H Q => ∃ W s n p zs xs ys s' u, RelSt K W s H ∧ Rep K W H (.loc n) x ∧ vs = [.ref p] ∧ H p = some (.lst zs) ∧ Reps K W H ys zs ∧ s.getD n .non = .lst xs ∧ xs.length + ys.length ≤ big ∧ putC n (.lst (xs ++ ys)) s = .ok u s' ∧ ∀ H', Chg K W H s' H' → Q .non H'
theorem mt_extD : MtR X "list.extend" (rExtD X.K) := by
  intro pins s σ H x vs v us Q I rx rv h
  obtain ⟨W, st, n, p, zs, xs, ys, s', u, R, hx, e0, hp, r4, e1, e2, e3, q⟩ := h
  obtain ⟨a, ws, eo, ea, hH, r⟩ := loc_get R hx e1
  have hl := r.length
  have hl4 := r4.length
  exact mt_extend pins s σ H x vs v us Q I rx rv ⟨a, p, ws, zs, eo, e0, hH, hp, by rw [← big_eq]; omega, q _ (chg R ea (r.append r4) e3)⟩
/-- pop() and pop(i) -/
def rPopD (K : PySem.W.Frag) : V → List V → Hp → VK → Prop := fun x vs H Q => ∃ W s n xs ys d s' u, RelSt K W s H ∧ Rep K W H (.loc n) x ∧ s.getD n .non = .lst xs ∧
  ((vs = [] ∧ xs[xs.length - 1]? = some d ∧ ys = xs.dropLast) ∨ (∃ i : Int, vs = [.int i] ∧ 0 ≤ i ∧ xs[i.toNat]? = some d ∧ ys = xs.eraseIdx i.toNat)) ∧ putC n (.lst ys) s = .ok u s' ∧ ∀ v H', Chg K W H s' H' → Rep K W H' d v → Q v H'
theorem Reps.dropLast {K : PySem.W.Frag} {W : Wd} {H : Hp} {ds : List D} {vs : List V} (r : Reps K W H ds vs) : Reps K W H ds.dropLast vs.dropLast := by
  rw [List.dropLast_eq_take, List.dropLast_eq_take, r.length]
  exact r.take _
theorem mt_popD : MtR X "list.pop" (rPopD X.K) := by
  intro pins s σ H x vs v us Q I rx rv h
  obtain ⟨W, st, n, xs, ys, d, s', u, R, hx, e1, hc, e3, q⟩ := h
  obtain ⟨a, ws, eo, ea, hH, r⟩ := loc_get R hx e1
  have hl := r.length
  have hz : ws.length ≤ sizeLine := (I.hok a _ hH).1
  have hsz := sizeLine_eq
  rcases hc with ⟨e4, e5, e6⟩ | ⟨i, e4, h0, e5, e6⟩
  · subst e6
    obtain ⟨y, ey, ry⟩ := r.get e5
    have c := chg R ea r.dropLast e3
    exact mt_pop pins s σ H x vs v us Q I rx rv ⟨a, ws, y, eo, e4, hH, by rw [← hl]; exact ey, q _ _ c (Rep.pres c.pres ry)⟩
  · subst e6
    obtain ⟨y, ey, ry⟩ := r.get e5
    have hi := (List.getElem?_eq_some_iff.mp ey).1
    have c := chg R ea (r.eraseIdx i.toNat) e3
    exact mt_popAt pins s σ H x vs v us Q I rx rv ⟨a, ws, i, i.toNat, y, eo, e4, hH, by omega, by omega, seqIndex_of h0 (by omega), ey, q _ _ c (Rep.pres c.pres ry)⟩
end
end Pv
end
section
set_option maxRecDepth 100000
set_option maxHeartbeats 4000000
namespace Pv
open PySem PySem.Spec PyProof.Rows L2
/-! ### the checker: the evaluator's text is the program's -/
/-- fns: the defs' names; fr: hands back a new list; cons: the module's constants; free: names that the module leaves to the built-ins; mods: names that it binds to built-in functions; excs: its error classes -/
structure GC where
  fns : List Str
  fr : List Bool
  cons : List (Str × D)
  free : List Str
  mods : List Str
  excs : List Str
/-- where a text stands: the def's names by slot, the scope, a comprehension's own scope -/
structure SX where
  N : List Str
  sc : Scope
  bs : Option Scope
def frOf (G : GC) (f : Nat) : Bool := G.fr.getD f false
/-- hands back a list that is new -/
def fresh (G : GC) : CE → Bool
  | .lst _ => true
  | .comp _ _ _ _ _ => true
  | .bin _ _ _ => true
  | .bi .list _ => true
  | .slc _ _ _ => true
  | .slr _ => true
  | .call f _ => frOf G f
  | _ => false
def isDb (x : Str) : Bool := decide (x = ("__debug__" : Str)) || decide (x = ("__classdict__" : Str))
def visB (sc : Scope) (x : Str) : Bool := match sc.names.lookup x with
  | some .local | some .cell | some .free => true
  | _ => false
def locB (sc : Scope) (x : Str) : Bool := match sc.names.lookup x with
  | some .local | some .cell => true
  | _ => false
def glB (sc : Scope) (x : Str) : Bool := decide (sc.names.lookup x = some .globalImplicit) && !isDb x && decide (x ≠ ("__name__" : Str))
/-- a name that may be stored here -/
def stoB (S : SX) (x : Str) : Bool := locB S.sc x && match S.bs with
  | none => true
  | some b => locB b x
def freeB (G : GC) (S : SX) (x : Str) : Bool := glB S.sc x && G.free.contains x
def noStar : Expr → Bool
  | .Starred _ _ => false
  | _ => true
def noSet : Expr → Bool
  | .Set _ _ _ => false
  | _ => true
def noSlice : Expr → Bool
  | .Slice _ _ _ _ => false
  | _ => true
/-- what a method may be called of -/
def baseB : Expr → Bool
  | .Name _ _ | .Subscript _ _ _ => true
  | _ => false
def isTest : Expr → Bool
  | .Name _ _ | .Subscript _ _ _ | .Call _ _ _ _ | .Constant _ _ _ => true
  | _ => false
def opB : Op → Operator → Bool
  | .add, .Add | .sub, .Sub | .mul, .Mult | .fdiv, .FloorDiv | .mod, .Mod | .pow, .Pow => true
  | _, _ => false
def cpB : Cp → CmpOp → Bool
  | .eq, .Eq | .ne, .NotEq | .lt, .Lt | .le, .LtE | .gt, .Gt | .ge, .GtE | .isin, .In | .notin, .NotIn | .is_, .Is | .isnot, .IsNot => true
  | _, _ => false
def litB : D → Const → Bool
  | .non, .none => true
  | .bl a, .bool b => a == b
  | .int i, .int j => decide (i = j)
  | .str x, .str y => decide (x = y)
  | _, _ => false
def consB (G : GC) (x : Str) (d : D) : Bool := G.cons.any fun p => decide (p.1 = x) && same p.2 d
def ownB (S : SX) (scope : Scope) (own : List (Str × Nat)) : Bool := blkC S.N S.sc scope own
def blkSX (S : SX) (scope : Scope) : SX := ⟨S.N, relS scope S.sc, some scope⟩
def biTy : BI → Bool
  | .int | .tuple | .list => true
  | _ => false
/-- may stand as a test -/
def tst : CE → Bool
  | .and a b => tst a && tst b
  | .or a b => tst a && tst b
  | .not a => tst a
  | .var _ | .lit _ | .glo _ _ | .idx _ _ | .call _ _ | .bi _ _ | .isi _ _ | .pop _ _ | .cmp _ _ _ | .chn _ _ _ _ _ => true
  | _ => false
/-- where a built-in function's name is bound -/
def biB (G : GC) (b : BI) (x : Str) : Bool := match b with
  | .gcd | .comb => G.mods.contains x
  | _ => G.free.contains x
mutual
def tgIn (ix : List Nat) : Tg → Bool
  | .nm i => ix.contains i
  | .tp ts => tgsIn ix ts
  | .sub _ _ => false
def tgsIn (ix : List Nat) : Tgs → Bool
  | .nil => true
  | .cons t r => tgIn ix t && tgsIn ix r
end
mutual
def chkE (G : GC) (S : SX) : CE → Expr → Bool
  | .var i, e => match e with
    | .Name x _ => decide (S.N[i]? = some x) && visB S.sc x && !isDb x
    | _ => false
  | .lit d, e => match e with
    | .Constant k _ _ => litB d k
    | _ => false
  | .glo y d, e => match e with
    | .Name x _ => decide (x = y) && glB S.sc x && consB G x d
    | _ => false
  | .bin o a b, e => match e with
    | .BinOp l op r _ => opB o op && chkE G S a l && chkE G S b r
    | _ => false
  | .neg a, e => match e with
    | .UnaryOp .USub l _ => chkE G S a l
    | _ => false
  | .cmp o a b, e => match e with
    | .Compare l [op] [r] _ => cpB o op && !behindInMarks op r && chkE G S a l && chkE G S b r
    | _ => false
  | .chn o p a b d, e => match e with
    | .Compare l [op, op2] [r, t] _ => cpB o op && cpB p op2 && !lastMarks [op, op2] [r, t] && chkE G S a l && chkE G S b r && chkE G S d t
    | _ => false
  | .and a b, e => match e with
    | .BoolOp .And (x :: y :: rest) pos => chkE G S a x && chkE G S b (match rest with
      | [] => y
      | _ => .BoolOp .And (y :: rest) pos)
    | _ => false
  | .or a b, e => match e with
    | .BoolOp .Or (x :: y :: rest) pos => chkE G S a x && chkE G S b (match rest with
      | [] => y
      | _ => .BoolOp .Or (y :: rest) pos)
    | _ => false
  | .not a, e => match e with
    | .UnaryOp .Not l _ => chkE G S a l
    | _ => false
  | .ite t a b, e => match e with
    | .IfExp u l r _ => tst t && chkE G S t u && chkE G S a l && chkE G S b r
    | _ => false
  | .tup es, e => match e with
    | .Tuple xs _ _ => chkEs G S es xs && decide (xs.length ≤ 1000)
    | _ => false
  | .lst es, e => match e with
    | .List xs _ => chkEs G S es xs && decide (xs.length ≤ 1000)
    | _ => false
  | .idx a i, e => match e with
    | .Subscript l r _ => noSlice r && chkE G S a l && chkE G S i r
    | _ => false
  | .slc a lo hi, e => match e with
    | .Subscript l (.Slice lo' hi' none _) _ => chkE G S a l && (match lo' with
        | none => chkEs G S lo []
        | some x => chkEs G S lo [x]) && (match hi' with
        | none => chkEs G S hi []
        | some x => chkEs G S hi [x])
    | _ => false
  | .slr a, e => match e with
    | .Subscript l (.Slice none none (some (.UnaryOp .USub (.Constant (.int i) _ _) _)) _) _ => decide (i = 1) && chkE G S a l
    | _ => false
  | .call f es, e => match e with
    | .Call (.Name x _) xs [] _ => decide (G.fns[f]? = some x) && glB S.sc x && chkEs G S es xs
    | _ => false
  | .callL _ _, _ => false
  | .thk, _ => false
  | .bi b es, e => match e with
    | .Call (.Name x _) (y :: ys) [] _ => decide (x = biName b) && glB S.sc x && biB G b x && chkEs G S es (y :: ys)
    | _ => false
  | .isi a t, e => match e with
    | .Call (.Name x _) [y, .Name z _] [] _ => decide (x = "isinstance") && freeB G S x && decide (z = tyName t) && freeB G S z && (match t with
        | .exc _ => false
        | _ => true) && chkE G S a y && noStar y
    | _ => false
  | .comp own tg it ifs elt, e => match e with
    | .ListComp el [⟨t, i, fs, 0⟩] scope _ => ownB S scope own && chkI G S it i && (match t, it with
        | .Tuple _ _ _, _ => true
        | _, .zip _ _ => false
        | _, .enum _ => false
        | _, _ => true) && tgIn (own.map (·.2)) tg && chkT G (blkSX S scope) tg t && chkF G (blkSX S scope) ifs fs && chkE G (blkSX S scope) elt el
    | _ => false
  | .thaw a, e => fresh G a && chkE G S a e
  | .pop o es, e => match e with
    | .Call (.Attribute l n apos) xs [] cpos => decide (n = "pop") && baseB l && (apos.endLine == cpos.line) && chkE G S o l && chkEs G S es xs && decide (xs.length ≤ 1)
    | _ => false
def chkEs (G : GC) (S : SX) : CEs → List Expr → Bool
  | .nil, xs => xs.isEmpty
  | .cons a r, xs => match xs with
    | x :: rest => noStar x && chkE G S a x && chkEs G S r rest
    | [] => false
def chkF (G : GC) (S : SX) : CEs → List Expr → Bool
  | .nil, xs => xs.isEmpty
  | .cons a r, xs => match xs with
    | [x] => (match r with
      | .nil => tst a && chkE G S a x
      | _ => false)
    | _ => false
def chkI (G : GC) (S : SX) : CI → Expr → Bool
  | .of a, e => noSet e && chkE G S a e
  | .range es, e => match e with
    | .Call (.Name x _) xs [] _ => decide (x = "range") && freeB G S x && chkEs G S es xs && decide (xs.length ≤ 3)
    | _ => false
  | .revr es, e => match e with
    | .Call (.Name x _) [.Call (.Name z _) xs [] _] [] _ => decide (x = "reversed") && freeB G S x && decide (z = "range") && freeB G S z && chkEs G S es xs && decide (xs.length ≤ 2)
    | _ => false
  | .zip a b, e => match e with
    | .Call (.Name x _) [y, z] [] _ => decide (x = "zip") && freeB G S x && chkE G S a y && chkE G S b z && noStar y && noStar z
    | _ => false
  | .enum a, e => match e with
    | .Call (.Name x _) [y] [] _ => decide (x = "enumerate") && freeB G S x && chkE G S a y && noStar y
    | _ => false
  | .rev a, e => match e with
    | .Call (.Name x _) [y] [] _ => decide (x = "reversed") && freeB G S x && chkE G S a y && noStar y
    | _ => false
def chkT (G : GC) (S : SX) : Tg → Expr → Bool
  | .nm i, e => match e with
    | .Name x _ => decide (S.N[i]? = some x) && stoB S x
    | _ => false
  | .tp ts, e => match e with
    | .Tuple xs _ _ => chkTs G S ts xs
    | _ => false
  | .sub o i, e => match e with
    | .Subscript l r _ => noSlice r && chkE G S o l && chkE G S i r
    | _ => false
def chkTs (G : GC) (S : SX) : Tgs → List Expr → Bool
  | .nil, xs => xs.isEmpty
  | .cons t r, xs => match xs with
    | x :: rest => noStar x && chkT G S t x && chkTs G S r rest
    | [] => false
end
end Pv
end
section
set_option maxRecDepth 100000
set_option maxHeartbeats 4000000
namespace Pv
open PySem PySem.Spec PyProof.Rows L2
/-! ### what an outcome promises -/
abbrev Rl (α β : Type) := Wd → Hp → Wd → Sto → Hp → α → β → Prop
structure GT {α β : Type} (K : PySem.W.Frag) (G : Rl α β) : Prop where
  trans : ∀ {W H W1 H1 W' s' H' a b}, Pres W H W1 H1 → G W1 H1 W' s' H' a b → G W H W' s' H' a b
  pres : ∀ {W H W' s' H' a b}, G W H W' s' H' a b → Pres W H W' H'
  st : ∀ {W H W' s' H' a b}, G W H W' s' H' a b → RelSt K W' s' H'
section
variable (K : PySem.W.Frag) (Wx : WX) (ea : Nat → Addr) (σ : L2.St)
def Exc (W : Wd) (H : Hp) (k : Nat) (v : D) (s' : Sto) : Prop :=
  v = .non ∧ ∀ W' H', Pres W H W' H' → RelSt K W' s' H' → Wx (.ref (ea k)) none σ H'
def Sat {α β : Type} (G : Rl α β) (W : Wd) (H : Hp) (x : Out α) (Q : β → Hp → Prop) : Prop :=
  match x with
  | .ok a s' => ∀ W' H' b, G W H W' s' H' a b → Q b H'
  | .exc k v s' => Exc K Wx ea σ W H k v s'
  | .bad => False
def GE (fr : Bool) : Rl D V := fun W H W' s' H' d v => Got K fr W H W' s' H' d v
def GL : Rl (List D) (List V) := fun W H W' s' H' ds vs => Pres W H W' H' ∧ RelSt K W' s' H' ∧ Reps K W' H' ds vs
def GB : Rl Bool Bool := fun W H W' s' H' a b => Pres W H W' H' ∧ RelSt K W' s' H' ∧ a = b
end
section
variable {K : PySem.W.Frag} {Wx : WX} {ea : Nat → Addr} {σ : L2.St} {W W1 : Wd} {H H1 : Hp}
theorem GE.gt {fr : Bool} : GT K (GE K fr) := ⟨fun p g => Got.trans (fr' := fr) p g, fun g => g.pres, fun g => g.st⟩
theorem GL.gt : GT K (GL K) := ⟨fun p g => ⟨p.trans g.1, g.2⟩, fun g => g.1, fun g => g.2.1⟩
theorem GB.gt : GT K (GB K) := ⟨fun p g => ⟨p.trans g.1, g.2⟩, fun g => g.1, fun g => g.2.1⟩
theorem Exc.pres {k : Nat} {v : D} {s' : Sto} (p : Pres W H W1 H1) (h : Exc K Wx ea σ W H k v s') : Exc K Wx ea σ W1 H1 k v s' :=
  ⟨h.1, fun W' H' p' r => h.2 W' H' (p.trans p') r⟩
theorem Sat.pres {α β : Type} {G : Rl α β} (T : GT K G) {x : Out α} {Q : β → Hp → Prop} (p : Pres W H W1 H1) (h : Sat K Wx ea σ G W H x Q) : Sat K Wx ea σ G W1 H1 x Q := by
  cases x with
  | ok a s' => exact fun W' H' b g => h W' H' b (T.trans p g)
  | exc k v s' => exact Exc.pres p h
  | bad => exact h
theorem Sat.imp {α β : Type} {G : Rl α β} {x : Out α} {Q Q' : β → Hp → Prop} (h : Sat K Wx ea σ G W H x Q) (i : ∀ b H', Q b H' → Q' b H') : Sat K Wx ea σ G W H x Q' := by
  cases x with
  | ok a s' => exact fun W' H' b g => i _ _ (h W' H' b g)
  | exc k v s' => exact h
  | bad => exact h
/-- first x, then the rest -/
theorem Sat.bind {α β γ δ : Type} {G1 : Rl α β} {G2 : Rl γ δ} (T1 : GT K G1) (T2 : GT K G2) {x : Out α} {f : α → Sto → Out γ} {Q : δ → Hp → Prop} (h : Sat K Wx ea σ G2 W H (x.bind f) Q) :
    Sat K Wx ea σ G1 W H x fun b H1 => ∃ W1 s1 a, G1 W H W1 s1 H1 a b ∧ Sat K Wx ea σ G2 W1 H1 (f a s1) Q := by
  cases x with
  | ok a s' => exact fun W' H' b g => ⟨W', s', a, g, Sat.pres T2 (T1.pres g) h⟩
  | exc k v s' => exact h
  | bad => exact h
theorem Sat.lift {β : Type} {G : Rl D β} {d : Option D} {s : Sto} {Q : β → Hp → Prop} (h : Sat K Wx ea σ G W H (lift d s) Q) : ∃ x, d = some x ∧ ∀ W' H' b, G W H W' s H' x b → Q b H' := by
  cases d with
  | none => exact h.elim
  | some x => exact ⟨x, rfl, h⟩
theorem Sat.truth {β : Type} {G : Rl Bool β} {d : D} {s : Sto} {Q : β → Hp → Prop} (h : Sat K Wx ea σ G W H (truth d s) Q) : ∃ x, d = .bl x ∧ ∀ W' H' b, G W H W' s H' x b → Q b H' := by
  cases d with
  | bl b => exact ⟨b, rfl, h⟩
  | _ => exact h.elim
end
/-! ### where a text stands -/
section
variable (C : Cl) (K : PySem.W.Frag) (Wx : WX) (ea : Nat → Addr)
def tE (fr : Bool) (c : CE) : TE := fun σ H Q => ∃ W e s, RelSt K W s H ∧ RelEn K W H e σ ∧ Sat K Wx ea σ (GE K fr) W H (evE C c e s) Q
def tT (c : CE) : TT := fun σ H Q => ∃ W e s, RelSt K W s H ∧ RelEn K W H e σ ∧ Sat K Wx ea σ (GB K) W H ((evE C c e s).bind truth) Q
def tA (c : CEs) : TA := fun σ H Q => ∃ W e s, RelSt K W s H ∧ RelEn K W H e σ ∧ Sat K Wx ea σ (GL K) W H (evEs C c e s) Q
def tF (c : CEs) : TT := fun σ H Q => ∃ W e s, RelSt K W s H ∧ RelEn K W H e σ ∧ Sat K Wx ea σ (GB K) W H (evIf C c e s) Q
end
/-- what is walked -/
structure WalkD (K : PySem.W.Frag) (J : It) (ds : List D) (gd : Gd) (Sq : Wd → Hp → Prop) : Prop where
  mono : ∀ {W H W' H'}, Keeps K W H W' H' W.rho.length → Sq W H → Sq W' H'
  go : ∀ i W s H, i < ds.length → RelSt K W s H → gok s gd = true → Sq W H → J.go i H
  stop : ∀ W s H, RelSt K W s H → gok s gd = true → Sq W H → J.stop ds.length H
  yld : ∀ i W s H x H', i < ds.length → RelSt K W s H → gok s gd = true → Sq W H → J.yld i H x H' → ∃ d, ds[i]? = some d ∧ Pres W H W H' ∧ RelSt K W s H' ∧ Rep K W H' d x
def GI (K : PySem.W.Frag) : Rl (List D × Gd) It := fun W H W' s' H' w J => Pres W H W' H' ∧ RelSt K W' s' H' ∧ ∃ Sq, WalkD K J w.1 w.2 Sq ∧ Sq W' H'
theorem GI.gt {K : PySem.W.Frag} : GT K (GI K) := ⟨fun p g => ⟨p.trans g.1, g.2⟩, fun g => g.1, fun g => g.2.1⟩
/-- a store: the slots of tg alone -/
def GN (K : PySem.W.Frag) (σ : L2.St) (tg : Nat → Bool) : Rl En L2.St := fun W H W' s' H' e σ' => Pres W H W' H' ∧ RelSt K W' s' H' ∧ RelEn K W' H' e σ' ∧ σ'.length = σ.length ∧ ∀ i, tg i = false → σ'[i]? = σ[i]?
theorem GN.gt {K : PySem.W.Frag} {σ : L2.St} {tg : Nat → Bool} : GT K (GN K σ tg) := ⟨fun p g => ⟨p.trans g.1, g.2⟩, fun g => g.1, fun g => g.2.1⟩
mutual
def tgSl : Tg → Nat → Bool
  | .nm i, j => i == j
  | .tp ts, j => tgsSl ts j
  | .sub _ _, _ => false
def tgsSl : Tgs → Nat → Bool
  | .nil, _ => false
  | .cons t r, j => tgSl t j || tgsSl r j
end
section
variable (C : Cl) (K : PySem.W.Frag) (Wx : WX) (ea : Nat → Addr)
def tI (c : CI) : TI := fun σ H R => ∃ W e s, RelSt K W s H ∧ RelEn K W H e σ ∧ Sat K Wx ea σ (GI K) W H (evI C c e s) R
def tG (t : Tg) : TG := fun v σ H Q => ∃ W e s d, RelSt K W s H ∧ RelEn K W H e σ ∧ Rep K W H d v ∧ Sat K Wx ea σ (GN K σ (tgSl t)) W H (evT C t d e s) Q
def tGs (t : Tgs) : TGs := fun vs σ H Q => ∃ W e s ds, RelSt K W s H ∧ RelEn K W H e σ ∧ Reps K W H ds vs ∧ Sat K Wx ea σ (GN K σ (tgsSl t)) W H (evTs C t ds e s) Q
/-- a def's promise -/
def SatF (fr : Bool) (W : Wd) (H : Hp) (Q : VK) (E : XK) (x : Out D) : Prop :=
  match x with
  | .ok d s' => ∀ H' v, Got K fr W H W s' H' d v → Q v H'
  | .exc k v s' => v = .non ∧ ∀ H', Pres W H W H' → RelSt K W s' H' → E (.ref (ea k)) none H'
  | .bad => False
def spD (fr : Bool) (f : Nat) (np : Nat) : Sp := fun vs H Q E => ∃ W s ds, RelSt K W s H ∧ Reps K W H ds vs ∧ ds.length = np ∧ SatF K ea fr W H Q E (C.fn f (fun _ => .bad) ds s)
end
/-- what is known of a place -/
structure Ctx (G : GC) (S : SX) (C : Cl) (Wx : WX) (ea : Nat → Addr) (k : Nat) (X : Cx) : Prop where
  N : X.N = S.N
  nd : X.N.Nodup
  sc : X.env.scope = S.sc
  calm : X.calm = true
  room : Room k X.A
  tk : Takes X Wx
  sto : ∀ x, stoB S x = true → X.fn x = true ∨ X.env.scope.names.lookup x = some .local
  cons : ∀ x d, consB G x d = true → ∃ u v, X.mg x = some u ∧ RelV v u ∧ ∀ W H, Rep X.K W H d v
  free : ∀ x, G.free.contains x = true → X.mg x = none
  mods : ∀ b, G.mods.contains (biName b) = true → X.mg (biName b) = some (biVal b)
  fns : ∀ f x, G.fns[f]? = some x → ∃ fa fd ps, X.mg x = some (.ref fa) ∧ PySem.W.keepIn X.K (.ref fa) = true ∧ Binds X.K fd ps [] ∧
    FnOk X.prog X.w X.K X.mg X.base (L2.CX X.prog X.w) k fa fd ps (spD C X.K ea (frOf G f) f ps.length) ∧ ∀ th ds s, ds.length ≠ ps.length → C.fn f th ds s = .bad
section
variable {G : GC} {S : SX} {C : Cl} {Wx : WX} {ea : Nat → Addr} {k : Nat} {X : Cx}
theorem takesF {X : Cx} : Takes X (fun _ _ _ _ => False) := fun _ _ ⟨_, _, _, _, _, _, _, _, _, _, _, _, _, _, _, _, w⟩ => w.elim
theorem loc_of {sc : Scope} {x : Str} (h : locB sc x = true) : Loc sc x := by
  unfold locB at h
  split at h
  · exact .inl (by assumption)
  · exact .inr (by assumption)
  · cases h
theorem vis_of {sc : Scope} {x : Str} (h : visB sc x = true) : Vis sc x := by
  unfold visB at h
  split at h
  · exact .inl (by assumption)
  · exact .inr (.inl (by assumption))
  · exact .inr (.inr (by assumption))
  · cases h
theorem Ctx.blk (c : Ctx G S C Wx ea k X) {scope : Scope} (s : Shared) (H : Hp) (CA : Addr) (cl : List (Str × Addr)) (fp : List Addr) :
    Ctx G (blkSX S scope) C (fun _ _ _ _ => False) ea k (X.blk s H scope (compEnvC scope cl CA X.env) fp) := by
  have hsc : (compEnvC scope cl CA X.env).scope = relS scope S.sc := by rw [← c.sc]; rfl
  refine ⟨c.N, c.nd, hsc, c.calm, c.room, takesF, fun x h => ?_, c.cons, c.free, c.mods, c.fns⟩
  unfold stoB blkSX at h
  simp only [Bool.and_eq_true] at h
  obtain ⟨h1, h2⟩ := h
  show (scope.names.lookup x == some NameKind.cell) = true ∨ (compEnvC scope cl CA X.env).scope.names.lookup x = some .local
  unfold locB at h2
  split at h2
  · rename_i q
    right
    rw [hsc]
    exact lookup_relS_keep (by decide) q
  · rename_i q
    left
    rw [q]; rfl
  · cases h2
theorem isDb_no {x : Str} (h : isDb x = false) : (x == ("__debug__" : Str)) = false ∧ (x == ("__classdict__" : Str)) = false := by
  unfold isDb at h
  simp only [Bool.or_eq_false_iff, decide_eq_false_iff_not] at h
  exact ⟨beq_eq_false_iff_ne.mpr h.1, beq_eq_false_iff_ne.mpr h.2⟩
theorem Ctx.gl (c : Ctx G S C Wx ea k X) {x : Str} (h : glB S.sc x = true) : Gl X x ∧ (x == ("__debug__" : Str)) = false ∧ x ≠ "__name__" := by
  unfold glB at h
  simp only [Bool.and_eq_true, decide_eq_true_eq, Bool.not_eq_true'] at h
  obtain ⟨⟨h1, h2⟩, h3⟩ := h
  refine ⟨?_, (isDb_no h2).1, h3⟩
  show X.env.scope.names.lookup x = some .globalImplicit
  rw [c.sc]
  exact h1
theorem star_cons {x : Expr} {rest : List Expr} {env : Env} (h : noStar x = true) : starEach (x :: rest) env = (false, eval x env) :: starEach rest env := by
  cases x <;> first | rfl | cases h
theorem star_any {es : CEs} : ∀ {xs : List Expr} {env : Env} {pos : Pos}, chkEs G S es xs = true → (backTo pos (starEach xs env)).any (·.1) = false := by
  intro xs
  induction xs generalizing es with
  | nil => intro env pos _; rfl
  | cons x r ih =>
    intro env pos h
    cases es with
    | nil => simp [chkEs] at h
    | cons a es =>
      simp only [chkEs, Bool.and_eq_true] at h
      rw [star_cons h.1.1]
      show (false || (backTo pos (starEach r env)).any (·.1)) = false
      rw [Bool.false_or]
      exact ih h.2
theorem PE.by {e : Expr} {t t' : TE} (h : PE X e t) (i : ∀ σ H Q, t' σ H Q → t σ H Q) : PE X e t' := ⟨fun pins s σ H Q I q => h.run pins s σ H Q I (i σ H Q q)⟩
theorem PT.by {e : Expr} {t t' : TT} (h : PT X e t) (i : ∀ σ H Q, t' σ H Q → t σ H Q) : PT X e t' := ⟨fun pins s σ H Q I q => h.run pins s σ H Q I (i σ H Q q)⟩
theorem PW.by {e : Expr} {t t' : TT} (h : PW X e t) (i : ∀ σ H Q, t' σ H Q → t σ H Q) : PW X e t' := ⟨fun wh pins s σ H Q I q => h.run wh pins s σ H Q I (i σ H Q q)⟩
theorem PA.by {e : List Expr} {t t' : TA} (h : PA X e t) (i : ∀ σ H Q, t' σ H Q → t σ H Q) : PA X e t' := ⟨fun p pins s σ H Q I q => h.run p pins s σ H Q I (i σ H Q q)⟩
end
end Pv
end
section
set_option maxRecDepth 100000
set_option maxHeartbeats 4000000
namespace Pv
open PySem PySem.Spec PyProof.Rows L2
section
variable {G : GC} {S : SX} {C : Cl} {Wx : WX} {ea : Nat → Addr} {k : Nat} {X : Cx}
theorem Got.any {K : PySem.W.Frag} {fr : Bool} {W W' : Wd} {H H' : Hp} {s' : Sto} {d : D} {v : V} (g : Got K true W H W' s' H' d v) : Got K fr W H W' s' H' d v :=
  ⟨g.pres, g.st, g.rep, fun _ => g.own rfl⟩
theorem Got.weak {K : PySem.W.Frag} {fr : Bool} {W W' : Wd} {H H' : Hp} {s' : Sto} {d : D} {v : V} (g : Got K fr W H W' s' H' d v) : Got K false W H W' s' H' d v :=
  ⟨g.pres, g.st, g.rep, fun e => nomatch e⟩
theorem e_var {i : Nat} {x : Str} {pos : Pos} (c : Ctx G S C Wx ea k X) (hi : S.N[i]? = some x) (hv : visB S.sc x = true) (hd : isDb x = false) : PE X (.Name x pos) (tE C X.K Wx ea false (.var i)) := by
  refine PE.by (pe_var (i := i) (by rw [c.N]; exact hi) (by rw [c.sc]; exact vis_of hv) (isDb_no hd).1 (isDb_no hd).2) fun σ H Q h => ?_
  obtain ⟨W, e, s, R, En, h⟩ := h
  simp only [evE] at h
  split at h
  · rename_i d hd
    obtain ⟨v, e1, r⟩ := En.2 i d hd
    exact ⟨v, e1, h W H v (Got.old R r)⟩
  · exact h.elim
theorem e_lit {d : D} {kk : Const} {n : Nat} {pos : Pos} (hl : litB d kk = true) : PE X (.Constant kk n pos) (tE C X.K Wx ea false (.lit d)) := by
  have go : ∀ v : V, (∀ W H, Rep X.K W H d v) → PE X (.Constant kk n pos) (tC v) → PE X (.Constant kk n pos) (tE C X.K Wx ea false (.lit d)) := fun v hr hp => PE.by hp fun σ H Q h => by
    obtain ⟨W, e, s, R, En, h⟩ := h
    exact h W H v (Got.old R (hr W H))
  unfold litB at hl
  split at hl
  · exact go .non (fun _ _ => rfl) pe_non
  · rename_i a b
    have : a = b := eq_of_beq hl
    subst this
    exact go (.bl a) (fun _ _ => rfl) pe_bl
  · have := of_decide_eq_true hl
    subst this
    exact go (.int _) (fun _ _ => rfl) pe_int
  · have := of_decide_eq_true hl
    subst this
    exact go (.str _) (fun _ _ => rfl) pe_str
  · cases hl
theorem e_glo {x : Str} {d : D} {pos : Pos} (c : Ctx G S C Wx ea k X) (hg : glB S.sc x = true) (hc : consB G x d = true) : PE X (.Name x pos) (tE C X.K Wx ea false (.glo x d)) := by
  obtain ⟨u, v, hm, r, hr⟩ := c.cons x d hc
  refine PE.by (pe_glob (c.gl hg).1 hm r (c.gl hg).2.1) fun σ H Q h => ?_
  obtain ⟨W, e, s, R, En, h⟩ := h
  exact h W H v (Got.old R (hr W H))
theorem opB_eq {o : Op} {op : Operator} (h : opB o op = true) : op = opOf o := by cases o <;> cases op <;> first | rfl | cases h
theorem cpB_eq {o : Cp} {op : CmpOp} (h : cpB o op = true) : op = cpOf o := by cases o <;> cases op <;> first | rfl | cases h
theorem t_bin {o : Op} {a b : CE} {fr : Bool} {σ : L2.St} {H : Hp} {Q : VK} (h : tE C X.K Wx ea fr (.bin o a b) σ H Q) : tOp (rBin X.K o) (tE C X.K Wx ea false a) (tE C X.K Wx ea false b) σ H Q := by
  obtain ⟨W, e, s, R, En, h⟩ := h
  simp only [evE] at h
  refine ⟨W, e, s, R, En, (Sat.bind GE.gt GE.gt h).imp fun x H1 ⟨W1, s1, d1, g1, h1⟩ => ?_⟩
  refine ⟨W1, e, s1, g1.st, En.pres g1.pres, (Sat.bind GE.gt GE.gt h1).imp fun y H2 ⟨W2, s2, d2, g2, h2⟩ => ?_⟩
  obtain ⟨d, e1, h3⟩ := h2.lift
  exact ⟨W2, s2, d1, d2, d, g2.st, Rep.pres g2.pres g1.rep, g2.rep, e1, fun v H' g => h3 W2 H' v g.any⟩
theorem e_bin {o : Op} {a b : CE} {l r : Expr} {op : Operator} {pos : Pos} {fr : Bool} (ho : opB o op = true) (ha : PE X l (tE C X.K Wx ea false a)) (hb : PE X r (tE C X.K Wx ea false b)) : PE X (.BinOp l op r pos) (tE C X.K Wx ea fr (.bin o a b)) := by
  rw [opB_eq ho]
  exact PE.by (pe_op (op_bin o) ha hb) fun σ H Q h => t_bin h
theorem e_neg {a : CE} {l : Expr} {pos : Pos} (ha : PE X l (tE C X.K Wx ea false a)) : PE X (.UnaryOp .USub l pos) (tE C X.K Wx ea false (.neg a)) := by
  refine PE.by (pe_un un_negD ha) fun σ H Q h => ?_
  obtain ⟨W, e, s, R, En, h⟩ := h
  simp only [evE] at h
  refine ⟨W, e, s, R, En, (Sat.bind GE.gt GE.gt h).imp fun x H1 ⟨W1, s1, d1, g1, h1⟩ => ?_⟩
  obtain ⟨d, e1, h3⟩ := h1.lift
  exact ⟨W1, s1, d1, d, g1.st, g1.rep, e1, fun v H' g => h3 W1 H' v g⟩
theorem t_cmp {o : Cp} {a b : CE} {σ : L2.St} {H : Hp} {Q : VK} (h : tE C X.K Wx ea false (.cmp o a b) σ H Q) : tOp (rCmp X.K o) (tE C X.K Wx ea false a) (tE C X.K Wx ea false b) σ H Q := by
  obtain ⟨W, e, s, R, En, h⟩ := h
  simp only [evE] at h
  refine ⟨W, e, s, R, En, (Sat.bind GE.gt GE.gt h).imp fun x H1 ⟨W1, s1, d1, g1, h1⟩ => ?_⟩
  refine ⟨W1, e, s1, g1.st, En.pres g1.pres, (Sat.bind GE.gt GE.gt h1).imp fun y H2 ⟨W2, s2, d2, g2, h2⟩ => ?_⟩
  obtain ⟨d, e1, h3⟩ := h2.lift
  exact ⟨W2, s2, d1, d2, d, g2.st, Rep.pres g2.pres g1.rep, g2.rep, e1, fun v H' g => h3 W2 H' v g.weak⟩
/-- a value that must be a truth value, as a test -/
theorem t_test {c : CE} {σ : L2.St} {H : Hp} {Q : Bool → Hp → Prop} (h : tT C X.K Wx ea c σ H Q) : tE C X.K Wx ea false c σ H fun x H1 => ∃ k, x = .bl k ∧ Q k H1 := by
  obtain ⟨W, e, s, R, En, h⟩ := h
  refine ⟨W, e, s, R, En, (Sat.bind GE.gt GB.gt h).imp fun x H1 ⟨W1, s1, d1, g1, h1⟩ => ?_⟩
  obtain ⟨b, e1, h3⟩ := h1.truth
  subst e1
  exact ⟨b, g1.rep, h3 W1 H1 b ⟨Pres.refl, g1.st, rfl⟩⟩
theorem e_cmp {o : Cp} {a b : CE} {l r : Expr} {op : CmpOp} {pos : Pos} (c : Ctx G S C Wx ea k X) (ho : cpB o op = true) (hm : behindInMarks op r = false) (ha : PE X l (tE C X.K Wx ea false a)) (hb : PE X r (tE C X.K Wx ea false b)) :
    PE X (.Compare l [op] [r] pos) (tE C X.K Wx ea false (.cmp o a b)) ∧ PT X (.Compare l [op] [r] pos) (tT C X.K Wx ea (.cmp o a b)) := by
  have e := cpB_eq ho
  subst e
  refine ⟨PE.by (pe_cmpR (op_cmp c.room o) ha hb hm) fun σ H Q h => t_cmp h, PT.by (pt_cmpR (op_cmp c.room o) ha hb hm) fun σ H Q h => ?_⟩
  exact t_cmp (t_test h)
theorem t_chn {o p : Cp} {a b d : CE} {σ : L2.St} {H : Hp} {Q : VK} (h : tE C X.K Wx ea false (.chn o p a b d) σ H Q) : tChain (rCmp X.K o) (rCmp X.K p) (tE C X.K Wx ea false a) (tE C X.K Wx ea false b) (tE C X.K Wx ea false d) σ H Q := by
  obtain ⟨W, e, s, R, En, h⟩ := h
  simp only [evE] at h
  refine ⟨W, e, s, R, En, (Sat.bind GE.gt GE.gt h).imp fun x H1 ⟨W1, s1, d1, g1, h1⟩ => ?_⟩
  refine ⟨W1, e, s1, g1.st, En.pres g1.pres, (Sat.bind GE.gt GE.gt h1).imp fun y H2 ⟨W2, s2, d2, g2, h2⟩ => ?_⟩
  cases q : cmpD o (fz 0 s2 d1) (fz 0 s2 d2) with
  | none => rw [q] at h2; exact h2.elim
  | some z =>
    rw [q] at h2
    refine ⟨W2, s2, d1, d2, z, g2.st, Rep.pres g2.pres g1.rep, g2.rep, q, fun v H3 g3 => ?_⟩
    have h3 : Sat X.K Wx ea σ (GE X.K false) W2 H2 ((truth z s2).bind fun k s => if k = true then (evE C d e s).bind fun u s => lift (cmpD p (fz 0 s d2) (fz 0 s u)) s else .ok (.bl false) s) Q := h2
    have h4 := h3.pres GE.gt g3.pres
    obtain ⟨b, e1, h5⟩ := (Sat.bind (G1 := GB X.K) GB.gt GE.gt h4).truth
    subst e1
    refine ⟨b, g3.rep, ?_⟩
    obtain ⟨W4, s4, b', ⟨p4, r4, e4⟩, h6⟩ := h5 W2 H3 b ⟨Pres.refl, g3.st, rfl⟩
    subst e4
    cases b' with
    | false =>
      simp only [Bool.false_eq_true, if_false] at h6 ⊢
      exact h6 W4 H3 (.bl false) (Got.val r4 rfl rfl)
    | true =>
      simp only [if_true] at h6 ⊢
      refine ⟨W4, e, s4, r4, (En.pres g1.pres).pres (g2.pres.trans (g3.pres.trans p4)), (Sat.bind GE.gt GE.gt h6).imp fun u H5 ⟨W5, s5, d5, g5, h7⟩ => ?_⟩
      obtain ⟨z', e7, h8⟩ := h7.lift
      exact ⟨W5, s5, d2, d5, z', g5.st, Rep.pres (g3.pres.trans (p4.trans g5.pres)) g2.rep, g5.rep, e7, fun v H' g => h8 W5 H' v g.weak⟩
theorem e_chn {o p : Cp} {a b d : CE} {l r t : Expr} {op op2 : CmpOp} {pos : Pos} (c : Ctx G S C Wx ea k X) (ho : cpB o op = true) (ho2 : cpB p op2 = true) (hm : lastMarks [op, op2] [r, t] = false)
    (ha : PE X l (tE C X.K Wx ea false a)) (hb : PE X r (tE C X.K Wx ea false b)) (hd : PE X t (tE C X.K Wx ea false d)) :
    PE X (.Compare l [op, op2] [r, t] pos) (tE C X.K Wx ea false (.chn o p a b d)) ∧ PT X (.Compare l [op, op2] [r, t] pos) (tT C X.K Wx ea (.chn o p a b d)) := by
  have e := cpB_eq ho
  have e2 := cpB_eq ho2
  subst e e2
  refine ⟨PE.by (pe_chain (op_cmp c.room o) (op_cmp c.room p) ha hb hd hm) fun σ H Q h => t_chn h, PT.by (pt_chain (op_cmp c.room o) (op_cmp c.room p) ha hb hd hm) fun σ H Q h => ?_⟩
  exact t_chn (t_test h)
/-! ### and, or, not -/
theorem t_and {a b : CE} {σ : L2.St} {H : Hp} {Q : VK} (h : tE C X.K Wx ea false (.and a b) σ H Q) : tAndV (tE C X.K Wx ea false a) (tE C X.K Wx ea false b) σ H Q := by
  obtain ⟨W, e, s, R, En, h⟩ := h
  simp only [evE] at h
  refine ⟨W, e, s, R, En, (Sat.bind GE.gt GE.gt h).imp fun x H1 ⟨W1, s1, d1, g1, h1⟩ => ?_⟩
  obtain ⟨b1, e1, h2⟩ := (Sat.bind (G1 := GB X.K) GB.gt GE.gt h1).truth
  subst e1
  obtain ⟨W4, s4, b', ⟨p4, r4, e4⟩, h6⟩ := h2 W1 H1 b1 ⟨Pres.refl, g1.st, rfl⟩
  subst e4
  refine ⟨b', g1.rep, ?_⟩
  cases b' with
  | false =>
    simp only [Bool.false_eq_true, if_false] at h6 ⊢
    exact h6 W4 H1 (.bl false) (Got.val r4 rfl rfl)
  | true =>
    simp only [if_true] at h6 ⊢
    exact ⟨W4, e, s4, r4, En.pres (g1.pres.trans p4), h6⟩
theorem t_or {a b : CE} {σ : L2.St} {H : Hp} {Q : VK} (h : tE C X.K Wx ea false (.or a b) σ H Q) : tOrV (tE C X.K Wx ea false a) (tE C X.K Wx ea false b) σ H Q := by
  obtain ⟨W, e, s, R, En, h⟩ := h
  simp only [evE] at h
  refine ⟨W, e, s, R, En, (Sat.bind GE.gt GE.gt h).imp fun x H1 ⟨W1, s1, d1, g1, h1⟩ => ?_⟩
  obtain ⟨b1, e1, h2⟩ := (Sat.bind (G1 := GB X.K) GB.gt GE.gt h1).truth
  subst e1
  obtain ⟨W4, s4, b', ⟨p4, r4, e4⟩, h6⟩ := h2 W1 H1 b1 ⟨Pres.refl, g1.st, rfl⟩
  subst e4
  refine ⟨b', g1.rep, ?_⟩
  cases b' with
  | true =>
    simp only [if_true] at h6 ⊢
    exact h6 W4 H1 (.bl true) (Got.val r4 rfl rfl)
  | false =>
    simp only [Bool.false_eq_true, if_false] at h6 ⊢
    exact ⟨W4, e, s4, r4, En.pres (g1.pres.trans p4), h6⟩
theorem e_not {a : CE} {l : Expr} {pos : Pos} (ha : PE X l (tE C X.K Wx ea false a)) : PE X (.UnaryOp .Not l pos) (tE C X.K Wx ea false (.not a)) := by
  refine PE.by (pe_not ha) fun σ H Q h => ?_
  obtain ⟨W, e, s, R, En, h⟩ := h
  simp only [evE] at h
  refine ⟨W, e, s, R, En, (Sat.bind GE.gt GE.gt h).imp fun x H1 ⟨W1, s1, d1, g1, h1⟩ => ?_⟩
  obtain ⟨b1, e1, h2⟩ := (Sat.bind (G1 := GB X.K) GB.gt GE.gt h1).truth
  subst e1
  obtain ⟨W4, s4, b', ⟨p4, r4, e4⟩, h6⟩ := h2 W1 H1 b1 ⟨Pres.refl, g1.st, rfl⟩
  subst e4
  exact ⟨b', g1.rep, h6 W4 H1 _ (Got.val r4 rfl rfl)⟩
/-- tests: the first one's outcome, then the rest's -/
theorem t_seq {a : CE} {f : Bool → Sto → Out Bool} {σ : L2.St} {H : Hp} {W : Wd} {e : En} {s : Sto} {Q : Bool → Hp → Prop} (R : RelSt X.K W s H) (En : RelEn X.K W H e σ)
    (h : Sat X.K Wx ea σ (GB X.K) W H ((evE C a e s).bind fun x s => (truth x s).bind f) Q) :
    tT C X.K Wx ea a σ H fun b H1 => ∃ W1 s1, RelSt X.K W1 s1 H1 ∧ RelEn X.K W1 H1 e σ ∧ Sat X.K Wx ea σ (GB X.K) W1 H1 (f b s1) Q := by
  have h' : Sat X.K Wx ea σ (GB X.K) W H (((evE C a e s).bind truth).bind f) Q := by
    cases q : evE C a e s with
    | ok x s1 => rw [q] at h; exact h
    | exc _ _ _ => rw [q] at h; exact h
    | bad => rw [q] at h; exact h
  refine ⟨W, e, s, R, En, (Sat.bind GB.gt GB.gt h').imp fun b H1 ⟨W1, s1, b', ⟨p, r, eb⟩, h1⟩ => ?_⟩
  subst eb
  exact ⟨W1, s1, r, En.pres p, h1⟩
theorem bind_assoc {α β γ : Type} (x : Out α) (f : α → Sto → Out β) (g : β → Sto → Out γ) : (x.bind f).bind g = x.bind fun a s => (f a s).bind g := by cases x <;> rfl
theorem t_andT {a b : CE} {σ : L2.St} {H : Hp} {Q : Bool → Hp → Prop} (h : tT C X.K Wx ea (.and a b) σ H Q) : tAnd (tT C X.K Wx ea a) (tT C X.K Wx ea b) σ H Q := by
  obtain ⟨W, e, s, R, En, h⟩ := h
  simp only [evE, bind_assoc] at h
  obtain ⟨W0, e0, s0, R0, En0, h0⟩ := t_seq R En h
  refine ⟨W0, e0, s0, R0, En0, h0.imp fun c H1 ⟨W1, s1, r1, En1, h1⟩ => ?_⟩
  cases c with
  | true =>
    simp only [if_true] at h1 ⊢
    exact ⟨W1, e, s1, r1, En1, h1⟩
  | false =>
    simp only [Bool.false_eq_true, if_false] at h1 ⊢
    exact h1 W1 H1 false ⟨Pres.refl, r1, rfl⟩
theorem t_orT {a b : CE} {σ : L2.St} {H : Hp} {Q : Bool → Hp → Prop} (h : tT C X.K Wx ea (.or a b) σ H Q) : tOr (tT C X.K Wx ea a) (tT C X.K Wx ea b) σ H Q := by
  obtain ⟨W, e, s, R, En, h⟩ := h
  simp only [evE, bind_assoc] at h
  obtain ⟨W0, e0, s0, R0, En0, h0⟩ := t_seq R En h
  refine ⟨W0, e0, s0, R0, En0, h0.imp fun c H1 ⟨W1, s1, r1, En1, h1⟩ => ?_⟩
  cases c with
  | false =>
    simp only [Bool.false_eq_true, if_false] at h1 ⊢
    exact ⟨W1, e, s1, r1, En1, h1⟩
  | true =>
    simp only [if_true] at h1 ⊢
    exact h1 W1 H1 true ⟨Pres.refl, r1, rfl⟩
theorem t_notT {a : CE} {σ : L2.St} {H : Hp} {Q : Bool → Hp → Prop} (h : tT C X.K Wx ea (.not a) σ H Q) : tNot (tT C X.K Wx ea a) σ H Q := by
  obtain ⟨W, e, s, R, En, h⟩ := h
  simp only [evE, bind_assoc] at h
  obtain ⟨W0, e0, s0, R0, En0, h0⟩ := t_seq R En h
  refine ⟨W0, e0, s0, R0, En0, h0.imp fun c H1 ⟨W1, s1, r1, En1, h1⟩ => ?_⟩
  exact h1 W1 H1 (!c) ⟨Pres.refl, r1, rfl⟩
theorem t_ite {t a b : CE} {fr : Bool} {σ : L2.St} {H : Hp} {Q : VK} (h : tE C X.K Wx ea fr (.ite t a b) σ H Q) : tIf (tT C X.K Wx ea t) (tE C X.K Wx ea fr a) (tE C X.K Wx ea fr b) σ H Q := by
  obtain ⟨W, e, s, R, En, h⟩ := h
  simp only [evE] at h
  have h' : Sat X.K Wx ea σ (GE X.K fr) W H (((evE C t e s).bind truth).bind fun k s => if k = true then evE C a e s else evE C b e s) Q := by
    rw [bind_assoc]; exact h
  refine ⟨W, e, s, R, En, (Sat.bind GB.gt GE.gt h').imp fun c H1 ⟨W1, s1, b', ⟨p, r, eb⟩, h1⟩ => ?_⟩
  subst eb
  cases b' with
  | true =>
    simp only [if_true] at h1 ⊢
    exact ⟨W1, e, s1, r, En.pres p, h1⟩
  | false =>
    simp only [Bool.false_eq_true, if_false] at h1 ⊢
    exact ⟨W1, e, s1, r, En.pres p, h1⟩
/-! ### displays, items, parts -/
theorem a_nil : PA X [] (tA C X.K Wx ea .nil) := PA.by pa_nil fun σ H Q h => by
  obtain ⟨W, e, s, R, En, h⟩ := h
  exact h W H [] ⟨Pres.refl, R, rfl⟩
theorem a_cons {a : CE} {r : CEs} {x : Expr} {rest : List Expr} (hs : noStar x = true) (ha : PE X x (tE C X.K Wx ea false a)) (hr : PA X rest (tA C X.K Wx ea r)) : PA X (x :: rest) (tA C X.K Wx ea (.cons a r)) := by
  refine PA.by (pa_cons ha hr (star_cons hs)) fun σ H Q h => ?_
  obtain ⟨W, e, s, R, En, h⟩ := h
  simp only [evEs] at h
  refine ⟨W, e, s, R, En, (Sat.bind GE.gt GL.gt h).imp fun x H1 ⟨W1, s1, d1, g1, h1⟩ => ?_⟩
  refine ⟨W1, e, s1, g1.st, En.pres g1.pres, (Sat.bind GL.gt GL.gt h1).imp fun xs H2 ⟨W2, s2, ds, ⟨p2, r2, q2⟩, h2⟩ => ?_⟩
  exact h2 W2 H2 (x :: xs) ⟨Pres.refl, r2, ⟨x, xs, rfl, Rep.pres p2 g1.rep, q2⟩⟩
theorem evEs_len {c : Cl} : ∀ {es : CEs} {e : En} {s s' : Sto} {xs : List Expr} {ds : List D}, chkEs G S es xs = true → evEs c es e s = .ok ds s' → ds.length = xs.length
  | .nil, e, s, s', xs, ds, h, q => by
    simp only [chkEs, List.isEmpty_iff] at h
    simp only [evEs] at q
    cases q
    subst h
    rfl
  | .cons a r, e, s, s', xs, ds, h, q => by
    cases xs with
    | nil => simp [chkEs] at h
    | cons x rest =>
      simp only [chkEs, Bool.and_eq_true] at h
      simp only [evEs] at q
      cases q1 : evE c a e s with
      | ok d s1 =>
        rw [q1] at q
        simp only [Out.bind] at q
        cases q2 : evEs c r e s1 with
        | ok es2 s2 =>
          rw [q2] at q
          cases q
          rw [List.length_cons, List.length_cons, evEs_len h.2 q2]
        | exc _ _ _ => rw [q2] at q; cases q
        | bad => rw [q2] at q; cases q
      | exc _ _ _ => rw [q1] at q; cases q
      | bad => rw [q1] at q; cases q
/-- the arguments, and how many there are -/
theorem t_args {β γ : Type} {G2 : Rl β γ} (T : GT X.K G2) {es : CEs} {xs : List Expr} {f : List D → Sto → Out β} {σ : L2.St} {H : Hp} {W : Wd} {e : En} {s : Sto} {Q : γ → Hp → Prop} (hx : chkEs G S es xs = true) (R : RelSt X.K W s H) (En : RelEn X.K W H e σ)
    (h : Sat X.K Wx ea σ G2 W H ((evEs C es e s).bind f) Q) :
    tA C X.K Wx ea es σ H fun vs H1 => ∃ W1 s1 ds, Pres W H W1 H1 ∧ RelSt X.K W1 s1 H1 ∧ Reps X.K W1 H1 ds vs ∧ vs.length = xs.length ∧ Sat X.K Wx ea σ G2 W1 H1 (f ds s1) Q := by
  refine ⟨W, e, s, R, En, ?_⟩
  cases q : evEs C es e s with
  | bad => rw [q] at h; exact h.elim
  | exc _ _ _ => rw [q] at h; exact h
  | ok ds s1 =>
    rw [q] at h
    exact fun W1 H1 vs g => ⟨W1, s1, ds, g.1, g.2.1, g.2.2, by rw [← g.2.2.length, evEs_len hx q], h.pres T g.1⟩
theorem line1000 {n : Nat} (h : n ≤ 1000) : n ≤ sizeLine := Nat.le_of_lt (small1000 h)
theorem e_tup {es : CEs} {xs : List Expr} {n : Nat} {pos : Pos} (hx : chkEs G S es xs = true) (hl : xs.length ≤ 1000) (ha : PA X xs (tA C X.K Wx ea es)) : PE X (.Tuple xs n pos) (tE C X.K Wx ea false (.tup es)) := by
  refine PE.by (pe_tup ha) fun σ H Q h => ?_
  obtain ⟨W, e, s, R, En, h⟩ := h
  simp only [evE] at h
  obtain ⟨W0, e0, s0, R0, En0, h0⟩ := t_args GE.gt hx R En h
  refine ⟨W0, e0, s0, R0, En0, h0.imp fun vs H1 ⟨W1, s1, ds, p1, r1, q1, l1, h1⟩ => ⟨by rw [l1]; exact line1000 hl, fun p np => h1 W1 _ _ (Got.tupNew r1 q1 np)⟩⟩
theorem e_lst {es : CEs} {xs : List Expr} {pos : Pos} {fr : Bool} (hx : chkEs G S es xs = true) (hl : xs.length ≤ 1000) (ha : PA X xs (tA C X.K Wx ea es)) : PE X (.List xs pos) (tE C X.K Wx ea fr (.lst es)) := by
  refine PE.by (pe_lst ha) fun σ H Q h => ?_
  obtain ⟨W, e, s, R, En, h⟩ := h
  simp only [evE] at h
  obtain ⟨W0, e0, s0, R0, En0, h0⟩ := t_args GE.gt hx R En h
  refine ⟨W0, e0, s0, R0, En0, h0.imp fun vs H1 ⟨W1, s1, ds, p1, r1, q1, l1, h1⟩ => ⟨by rw [l1]; exact line1000 hl, fun p np => h1 W1 _ _ (Got.lstNew r1 q1 np)⟩⟩
theorem plainIx_of {r : Expr} (h : noSlice r = true) : PlainIx r := by
  intro o i
  cases r <;> first | rfl | cases h
theorem e_idx {a i : CE} {l r : Expr} {pos : Pos} (hn : noSlice r = true) (ha : PE X l (tE C X.K Wx ea false a)) (hi : PE X r (tE C X.K Wx ea false i)) : PE X (.Subscript l r pos) (tE C X.K Wx ea false (.idx a i)) := by
  refine PE.by (pe_ix ix_idx ha hi (plainIx_of hn)) fun σ H Q h => ?_
  obtain ⟨W, e, s, R, En, h⟩ := h
  simp only [evE] at h
  refine ⟨W, e, s, R, En, (Sat.bind GE.gt GE.gt h).imp fun x H1 ⟨W1, s1, d1, g1, h1⟩ => ?_⟩
  refine ⟨W1, e, s1, g1.st, En.pres g1.pres, (Sat.bind GE.gt GE.gt h1).imp fun y H2 ⟨W2, s2, d2, g2, h2⟩ => ?_⟩
  obtain ⟨d, e1, h3⟩ := h2.lift
  exact ⟨W2, s2, d1, d2, d, g2.st, Rep.pres g2.pres g1.rep, g2.rep, e1, fun v H' g => h3 W2 H' v g⟩
theorem e_slc {a : CE} {lo hi : CEs} {l : Expr} {lo' hi' : Option Expr} {p2 pos : Pos} {fr : Bool} (ha : PE X l (tE C X.K Wx ea false a))
    (hl : (lo' = none ∧ lo = .nil) ∨ (∃ x c, lo' = some x ∧ lo = .cons c .nil ∧ PE X x (tE C X.K Wx ea false c))) (hh : (hi' = none ∧ hi = .nil) ∨ (∃ x c, hi' = some x ∧ hi = .cons c .nil ∧ PE X x (tE C X.K Wx ea false c))) :
    PE X (.Subscript l (.Slice lo' hi' none p2) pos) (tE C X.K Wx ea fr (.slc a lo hi)) := by
  have part : ∀ (o : Option Expr) (cs : CEs), ((o = none ∧ cs = .nil) ∨ (∃ x c, o = some x ∧ cs = .cons c .nil ∧ PE X x (tE C X.K Wx ea false c))) →
      ∃ t, PO X o t ∧ ∀ (σ : L2.St) (H : Hp) (W : Wd) (e : En) (s : Sto) (f : Option Int → Sto → Out D) (Q : VK) (Q' : Option Int → Hp → Prop), RelSt X.K W s H → RelEn X.K W H e σ → Sat X.K Wx ea σ (GE X.K fr) W H ((evEs C cs e s).bind fun l s => match optI l with
          | some l => f l s
          | none => .bad) Q →
        (∀ W1 H1 s1 i, Pres W H W1 H1 → RelSt X.K W1 s1 H1 → Sat X.K Wx ea σ (GE X.K fr) W1 H1 (f i s1) Q → Q' i H1) → t σ H Q' := by
    intro o cs h
    rcases h with ⟨rfl, rfl⟩ | ⟨x, c, rfl, rfl, hp⟩
    · exact ⟨_, po_none, fun σ H W e s f Q Q' R En h hq => hq W H s none Pres.refl R h⟩
    · refine ⟨_, po_some hp, fun σ H W e s f Q Q' R En h hq => ?_⟩
      simp only [evEs, bind_assoc] at h
      refine ⟨W, e, s, R, En, (Sat.bind GE.gt GE.gt h).imp fun x H1 ⟨W1, s1, d1, g1, h1⟩ => ?_⟩
      simp only [Out.bind] at h1
      cases d1 with
      | int i => exact ⟨i, g1.rep, hq W1 H1 s1 (some i) g1.pres g1.st h1⟩
      | _ => exact h1.elim
  obtain ⟨tl, pl, hl⟩ := part lo' lo hl
  obtain ⟨th, ph, hh⟩ := part hi' hi hh
  refine PE.by (pe_slice sl_slc ha pl ph) fun σ H Q h => ?_
  obtain ⟨W, e, s, R, En, h⟩ := h
  simp only [evE] at h
  refine ⟨W, e, s, R, En, (Sat.bind GE.gt GE.gt h).imp fun x H1 ⟨W1, s1, d1, g1, h1⟩ => ?_⟩
  refine hl σ H1 W1 e s1 _ Q _ g1.st (En.pres g1.pres) h1 fun W2 H2 s2 i p2 r2 h2 => ?_
  refine hh σ H2 W2 e s2 _ Q _ r2 (En.pres (g1.pres.trans p2)) h2 fun W3 H3 s3 j p3 r3 h3 => ?_
  obtain ⟨d, e4, h4⟩ := h3.lift
  exact ⟨W3, s3, d1, d, r3, Rep.pres (p2.trans p3) g1.rep, e4, fun v H' g => h4 W3 H' v g.any⟩
theorem e_slr {a : CE} {l : Expr} {n : Nat} {p1 p2 p3 pos : Pos} {fr : Bool} (ha : PE X l (tE C X.K Wx ea false a)) : PE X (.Subscript l (.Slice none none (some (.UnaryOp .USub (.Constant (.int 1) n p1) p2)) p3) pos) (tE C X.K Wx ea fr (.slr a)) := by
  refine PE.by (pe_revA ha) fun σ H Q h => ?_
  obtain ⟨W, e, s, R, En, h⟩ := h
  simp only [evE] at h
  refine ⟨W, e, s, R, En, (Sat.bind GE.gt GE.gt h).imp fun x H1 ⟨W1, s1, d1, g1, h1⟩ => ?_⟩
  obtain ⟨d, e1, h2⟩ := h1.lift
  unfold revD at e1
  split at e1
  · rename_i xs q
    cases e1
    obtain ⟨p, vs, e2, t, r⟩ := rd_tup g1.st g1.rep q
    exact ⟨p, vs, e2, .inr ⟨t, fun q nq => h2 W1 _ _ (Got.tupNew g1.st r.reverse nq)⟩⟩
  · rename_i xs q
    cases e1
    obtain ⟨p, vs, e2, t, r⟩ := rd_lst g1.st g1.rep q
    exact ⟨p, vs, e2, .inl ⟨t, fun q nq => h2 W1 _ _ (Got.lstNew g1.st r.reverse nq)⟩⟩
  · cases e1
/-! ### calls -/
theorem pe_callS0 {CX : CXT} {j : Nat} {f : Addr} {fd : FuncData} {ps : List Str} {sp : Sp} {E : L2.St → XK} {x : Str} {p pos : Pos} (F : FnOk X.prog X.w X.K X.mg X.base CX j f fd ps sp) (hr : Room j X.A) (hg : Gl X x) (hm : X.mg x = some (.ref f)) (hk : PySem.W.keepIn X.K (.ref f) = true) (hb : Binds X.K fd ps []) (hx : ∀ σ, PassesAt CX X σ (E σ))
    (hdb : (x == ("__debug__" : Str)) = false) : PE X (.Call (.Name x p) [] [] pos) (tCallS sp E tNil) := by
  refine ⟨fun pins s σ H Q I h => ?_⟩
  refine wpAny_Call_Name_kw (ld_glob I hg hm ?_ hdb)
  exact PySem.W.callWith_K0 I.kIn hk (run_fnS (us := []) F hr hb (hx σ) I .nil h)
theorem e_call {f : Nat} {es : CEs} {x : Str} {xs : List Expr} {p pos : Pos} {fr : Bool} (c : Ctx G S C Wx ea k X) (hf : G.fns[f]? = some x) (hg : glB S.sc x = true) (hx : chkEs G S es xs = true) (hr : fr = true → frOf G f = true) (ha : PA X xs (tA C X.K Wx ea es)) :
    PE X (.Call (.Name x p) xs [] pos) (tE C X.K Wx ea fr (.call f es)) := by
  obtain ⟨fa, fd, ps, hm, hk, hb, F, hlen⟩ := c.fns f x hf
  have fin : ∀ (W1 : Wd) (H1 : Hp) (s1 : Sto) (ds : List D) (vs : List V) (σ : L2.St) (Q : VK), RelSt X.K W1 s1 H1 → Reps X.K W1 H1 ds vs → Sat X.K Wx ea σ (GE X.K fr) W1 H1 (C.fn f (fun _ => .bad) ds s1) Q → (spD C X.K ea (frOf G f) f ps.length) vs H1 Q (WE Wx σ) := fun W1 H1 s1 ds vs σ Q r1 q1 h1 => by
    have hl : ds.length = ps.length := by
      by_cases z : ds.length = ps.length
      · exact z
      · rw [hlen _ ds s1 z] at h1; exact h1.elim
    refine ⟨W1, s1, ds, r1, q1, hl, ?_⟩
    cases q : C.fn f (fun _ => .bad) ds s1 with
    | ok d s2 =>
      rw [q] at h1
      exact fun H' v g => h1 W1 H' v ⟨g.pres, g.st, g.rep, fun z => g.own (hr z)⟩
    | exc kk v s2 =>
      rw [q] at h1
      exact ⟨h1.1, fun H' p2 r2 => h1.2 W1 H' p2 r2⟩
    | bad => rw [q] at h1; exact h1.elim
  cases xs with
  | nil =>
    refine PE.by (pe_callS0 F c.room (c.gl hg).1 hm hk hb (E := WE Wx) (fun σ => passAt c.tk σ) (c.gl hg).2.1) fun σ H Q h => ?_
    obtain ⟨W, e, s, R, En, h⟩ := h
    simp only [evE] at h
    cases es with
    | nil => exact fin W H s [] [] σ Q R rfl h
    | cons a r => simp [chkEs] at hx
  | cons y ys =>
    have hs : noStar y = true ∧ ∃ a r, es = .cons a r ∧ chkEs G S r ys = true := by
      cases es with
      | nil => simp [chkEs] at hx
      | cons a r => simp only [chkEs, Bool.and_eq_true] at hx; exact ⟨hx.1.1, a, r, rfl, hx.2⟩
    obtain ⟨hs, a0, r0, _, hx0⟩ := hs
    refine PE.by (pe_callS F c.room (c.gl hg).1 hm hk hb (E := WE Wx) (fun σ => passAt c.tk σ) ha (c.gl hg).2.1 (star_cons hs) (star_any hx0)) fun σ H Q h => ?_
    obtain ⟨W, e, s, R, En, h⟩ := h
    simp only [evE] at h
    obtain ⟨W0, e0, s0, R0, En0, h0⟩ := t_args GE.gt hx R En h
    exact ⟨W0, e0, s0, R0, En0, h0.imp fun vs H1 ⟨W1, s1, ds, p1, r1, q1, l1, h1⟩ => fin W1 H1 s1 ds vs σ Q r1 q1 h1⟩
theorem boot_bi (b : BI) (hb : b ≠ .gcd) (hb2 : b ≠ .comb) : bootBuiltins (biName b) = some (biVal b) := by
  cases b <;> first | exact absurd rfl hb | exact absurd rfl hb2 | decide +kernel
theorem e_bi {b : BI} {es : CEs} {x : Str} {y : Expr} {ys : List Expr} {p pos : Pos} {fr : Bool} (c : Ctx G S C Wx ea k X) (hn : x = biName b) (hg : glB S.sc x = true)
    (hm : biB G b x = true) (hx : chkEs G S es (y :: ys) = true) (hfr : fr = true → (match b with
      | .list => true
      | _ => false) = true) (ha : PA X (y :: ys) (tA C X.K Wx ea es)) :
    PE X (.Call (.Name x p) (y :: ys) [] pos) (tE C X.K Wx ea fr (.bi b es)) := by
  subst hn
  have hs : noStar y = true ∧ ∃ a r, es = .cons a r ∧ chkEs G S r ys = true := by
    cases es with
    | nil => simp [chkEs] at hx
    | cons a r => simp only [chkEs, Bool.and_eq_true] at hx; exact ⟨hx.1.1, a, r, rfl, hx.2⟩
  obtain ⟨hs, a0, r0, _, hx0⟩ := hs
  obtain ⟨gl, db, nm⟩ := c.gl hg
  have rd : ∀ σ H Q, tE C X.K Wx ea fr (.bi b es) σ H Q → tCB (rBi X.K b) (tA C X.K Wx ea es) σ H Q := fun σ H Q h => by
    obtain ⟨W, e, s, R, En, h⟩ := h
    simp only [evE] at h
    obtain ⟨W0, e0, s0, R0, En0, h0⟩ := t_args GE.gt hx R En h
    refine ⟨W0, e0, s0, R0, En0, h0.imp fun vs H1 ⟨W1, s1, ds, p1, r1, q1, l1, h1⟩ => ?_⟩
    obtain ⟨d, e1, h2⟩ := h1.lift
    refine ⟨W1, s1, ds.map (rd s1), d, r1, reps_rdv r1 q1, e1, fun v H' g => h2 W1 H' v ⟨g.pres, g.st, g.rep, fun z => ?_⟩⟩
    have := hfr z
    cases b <;> first | exact g.own rfl | cases this
  have hc := call_bi (X := X) c.calm b
  cases b with
  | gcd => exact PE.by (pe_callBfun hc gl (c.mods .gcd hm) ha db (star_cons hs) (star_any hx0)) rd
  | comb => exact PE.by (pe_callBfun hc gl (c.mods .comb hm) ha db (star_cons hs) (star_any hx0)) rd
  | int => exact PE.by (pe_callTy hc gl (c.free _ hm) (boot_bi .int (fun z => nomatch z) (fun z => nomatch z)) ha nm db (star_cons hs) (star_any hx0)) rd
  | tuple => exact PE.by (pe_callTy hc gl (c.free _ hm) (boot_bi .tuple (fun z => nomatch z) (fun z => nomatch z)) ha nm db (star_cons hs) (star_any hx0)) rd
  | list => exact PE.by (pe_callTy hc gl (c.free _ hm) (boot_bi .list (fun z => nomatch z) (fun z => nomatch z)) ha nm db (star_cons hs) (star_any hx0)) rd
  | len => exact PE.by (pe_callB hc gl (c.free _ hm) (boot_bi .len (fun z => nomatch z) (fun z => nomatch z)) ha nm db (star_cons hs) (star_any hx0)) rd
  | abs => exact PE.by (pe_callB hc gl (c.free _ hm) (boot_bi .abs (fun z => nomatch z) (fun z => nomatch z)) ha nm db (star_cons hs) (star_any hx0)) rd
  | sum => exact PE.by (pe_callB hc gl (c.free _ hm) (boot_bi .sum (fun z => nomatch z) (fun z => nomatch z)) ha nm db (star_cons hs) (star_any hx0)) rd
  | min => exact PE.by (pe_callB hc gl (c.free _ hm) (boot_bi .min (fun z => nomatch z) (fun z => nomatch z)) ha nm db (star_cons hs) (star_any hx0)) rd
  | max => exact PE.by (pe_callB hc gl (c.free _ hm) (boot_bi .max (fun z => nomatch z) (fun z => nomatch z)) ha nm db (star_cons hs) (star_any hx0)) rd
  | all => exact PE.by (pe_callB hc gl (c.free _ hm) (boot_bi .all (fun z => nomatch z) (fun z => nomatch z)) ha nm db (star_cons hs) (star_any hx0)) rd
  | any => exact PE.by (pe_callB hc gl (c.free _ hm) (boot_bi .any (fun z => nomatch z) (fun z => nomatch z)) ha nm db (star_cons hs) (star_any hx0)) rd
  | sorted => exact PE.by (pe_callB hc gl (c.free _ hm) (boot_bi .sorted (fun z => nomatch z) (fun z => nomatch z)) ha nm db (star_cons hs) (star_any hx0)) rd
theorem boot_ty (t : Ty) (h : ∀ c, t ≠ .exc c) : bootBuiltins (tyName t) = some (.type (tyStr t)) := by
  cases t with
  | exc c => exact absurd rfl (h c)
  | _ => decide +kernel
theorem e_isi {a : CE} {t : Ty} {x z : Str} {y : Expr} {p p2 pos : Pos} (c : Ctx G S C Wx ea k X) (hx : x = "isinstance") (hf : freeB G S x = true) (hz : z = tyName t) (hfz : freeB G S z = true) (ht : ∀ c, t ≠ .exc c) (hs : noStar y = true) (ha : PE X y (tE C X.K Wx ea false a)) :
    PE X (.Call (.Name x p) [y, .Name z p2] [] pos) (tE C X.K Wx ea false (.isi a t)) := by
  subst hx hz
  unfold freeB at hf hfz
  simp only [Bool.and_eq_true] at hf hfz
  obtain ⟨gl, db, nm⟩ := c.gl hf.1
  obtain ⟨gl2, db2, nm2⟩ := c.gl hfz.1
  have pT : PE X (.Name (tyName t) p2) (tC (.ty (tyStr t))) := pe_bltn gl2 (c.free _ hfz.2) (boot_ty t ht) rfl nm2 db2
  have pA := pa_cons (es := [.Name (tyName t) p2]) ha (pa_cons pT pa_nil (star_cons rfl)) (star_cons hs)
  refine PE.by (pe_callB (call_isiD t) gl (c.free _ hf.2) (by decide +kernel) pA nm db (star_cons hs) rfl) fun σ H Q h => ?_
  obtain ⟨W, e, s, R, En, h⟩ := h
  simp only [evE] at h
  refine ⟨W, e, s, R, En, (Sat.bind GE.gt GE.gt h).imp fun v H1 ⟨W1, s1, d1, g1, h1⟩ => ?_⟩
  obtain ⟨d, e1, h2⟩ := h1.lift
  simp only [Option.map_eq_some_iff] at e1
  obtain ⟨b, e2, e3⟩ := e1
  subst e3
  exact ⟨W1, s1, rd s1 d1, v, b, g1.st, rdv g1.st g1.rep, rfl, e2, h2 W1 H1 (.bl b) (Got.val g1.st rfl rfl)⟩
/-- what a changed cell leaves, for an own value -/
theorem base_ok {o : Expr} {n : Str} {env : Env} (h : baseB o = true) : attributeBase o n env (eval o env) = eval o env := by
  cases o <;> first | rfl | cases h
theorem Sat.onLoc {α β : Type} {G2 : Rl α β} {K : PySem.W.Frag} {Wx : WX} {ea : Nat → Addr} {σ : L2.St} {W : Wd} {H : Hp} {x : D} {f : Nat → Out α} {Q : β → Hp → Prop} (h : Sat K Wx ea σ G2 W H (onLoc x f) Q) : ∃ n, x = .loc n ∧ Sat K Wx ea σ G2 W H (f n) Q := by
  cases x with
  | loc n => exact ⟨n, rfl, h⟩
  | _ => exact h.elim
theorem loc_list {K : PySem.W.Frag} {W : Wd} {H : Hp} {s : Sto} {n : Nat} {x : V} (R : RelSt K W s H) (r : Rep K W H (.loc n) x) : tyV K "list" x H := by
  simp only [Rep] at r
  obtain ⟨a, e1, q⟩ := r
  obtain ⟨ds, vs, c1, c2, _, _⟩ := R.cell n a q
  subst e1
  exact .inl ⟨rfl, _, SqL.of c2⟩
theorem putC_exc {n : Nat} {c : D} {s : Sto} : (∃ s', putC n c s = .ok () s') ∨ putC n c s = .bad := by
  unfold putC
  split
  · exact .inl ⟨_, rfl⟩
  · exact .inr rfl
/-- l.pop(..) -/
theorem s_pop {n : Nat} {W2 : Wd} {H2 : Hp} {s2 : Sto} {ds : List D} {x : V} {vs : List V} {σ : L2.St} {Q : VK} (R2 : RelSt X.K W2 s2 H2) (r1 : Rep X.K W2 H2 (.loc n) x) (r2 : Reps X.K W2 H2 ds vs)
    (h : Sat X.K Wx ea σ (GE X.K false) W2 H2 (popC n ds s2) Q) : rPopD X.K x vs H2 Q := by
  unfold popC at h
  split at h
  · rename_i xs q
    split at h
    · simp only [Reps] at r2
      split at h
      · rename_i d q2
        rcases putC_exc (n := n) (c := .lst xs.dropLast) (s := s2) with ⟨s3, q3⟩ | q3
        · rw [q3] at h
          exact ⟨W2, s2, n, xs, xs.dropLast, d, s3, (), R2, r1, q, .inl ⟨r2, q2, rfl⟩, q3, fun v H' c rv => h W2 H' v ⟨c.pres, c.st, rv, fun z => nomatch z⟩⟩
        · rw [q3] at h; exact h.elim
      · exact h.elim
    · rename_i i
      obtain ⟨v0, r0, e0, e1, e2⟩ := r2
      simp only [Reps] at e2
      subst e2
      have e1 : v0 = .int i := e1
      subst e1
      split at h
      · rename_i h0
        split at h
        · rename_i d q2
          rcases putC_exc (n := n) (c := .lst (xs.eraseIdx i.toNat)) (s := s2) with ⟨s3, q3⟩ | q3
          · rw [q3] at h
            exact ⟨W2, s2, n, xs, xs.eraseIdx i.toNat, d, s3, (), R2, r1, q, .inr ⟨i, e0, h0, q2, rfl⟩, q3, fun v H' c rv => h W2 H' v ⟨c.pres, c.st, rv, fun z => nomatch z⟩⟩
          · rw [q3] at h; exact h.elim
        · exact h.elim
      · exact h.elim
    · exact h.elim
  · exact h.elim
theorem e_pop {o : CE} {es : CEs} {l : Expr} {xs : List Expr} {apos cpos : Pos} (hb : baseB l = true) (hline : (apos.endLine == cpos.line) = true) (hx : chkEs G S es xs = true) (hl : xs.length ≤ 1)
    (ho : PE X l (tE C X.K Wx ea false o)) (ha : PA X xs (tA C X.K Wx ea es)) : PE X (.Call (.Attribute l "pop" apos) xs [] cpos) (tE C X.K Wx ea false (.pop o es)) := by
  cases xs with
  | nil =>
    refine PE.by (pe_bm0 PySem.F.plainAttrs_list PySem.F.slot_list_pop PySem.F.type_list_pop mt_popD ho (base_ok hb) hline) fun σ H Q h => ?_
    obtain ⟨W, e, s, R, En, h⟩ := h
    simp only [evE] at h
    refine ⟨W, e, s, R, En, (Sat.bind GE.gt GE.gt h).imp fun x H1 ⟨W1, s1, d1, g1, h1⟩ => ?_⟩
    obtain ⟨n, e1, h2⟩ := h1.onLoc
    subst e1
    cases es with
    | nil => exact ⟨loc_list g1.st g1.rep, s_pop (ds := []) g1.st g1.rep rfl h2⟩
    | cons a r => simp [chkEs] at hx
  | cons y ys =>
    cases ys with
    | cons _ _ => simp at hl
    | nil =>
      have hs : noStar y = true := by
        cases es with
        | nil => simp [chkEs] at hx
        | cons a r => simp only [chkEs, Bool.and_eq_true] at hx; exact hx.1.1
      refine PE.by (pe_bm PySem.F.plainAttrs_list PySem.F.slot_list_pop PySem.F.type_list_pop mt_popD ho ha (base_ok hb) (by rw [star_cons hs]; rfl) hline (star_cons hs) rfl) fun σ H Q h => ?_
      obtain ⟨W, e, s, R, En, h⟩ := h
      simp only [evE] at h
      refine ⟨W, e, s, R, En, (Sat.bind GE.gt GE.gt h).imp fun x H1 ⟨W1, s1, d1, g1, h1⟩ => ?_⟩
      obtain ⟨n, e1, h2⟩ := h1.onLoc
      subst e1
      refine ⟨loc_list g1.st g1.rep, W1, e, s1, g1.st, En.pres g1.pres, (Sat.bind GL.gt GE.gt h2).imp fun vs H2 ⟨W2, s2, ds, ⟨p2, r2, q2⟩, h3⟩ => ?_⟩
      exact s_pop r2 (Rep.pres p2 g1.rep) q2 h3
/-- a new list becomes a cell -/
theorem e_thaw {a : CE} {x : Expr} (ha : PE X x (tE C X.K Wx ea true a)) : PE X x (tE C X.K Wx ea false (.thaw a)) := by
  refine PE.by ha fun σ H Q h => ?_
  obtain ⟨W, e, s, R, En, h⟩ := h
  simp only [evE] at h
  refine ⟨W, e, s, R, En, ?_⟩
  cases q : evE C a e s with
  | bad => rw [q] at h; exact h.elim
  | exc _ _ _ => rw [q] at h; exact h
  | ok d s1 =>
    rw [q] at h
    intro W1 H1 v g1
    simp only [Out.bind] at h
    split at h
    · rename_i xs
      obtain ⟨p, vs, e1, np, o⟩ := g1.own rfl xs rfl
      subst e1
      split at h
      · have hl : W1.rho.length = s1.length := o.rel.len
        refine h ⟨W1.rho ++ [p], W1.av⟩ H1 (.ref p) ⟨g1.pres.cell np, o.cell, ?_, fun z => nomatch z⟩
        simp only [Rep]
        exact ⟨p, rfl, by rw [← hl]; simp⟩
      · exact h.elim
    · exact h.elim
end
end Pv
end
section
set_option maxRecDepth 100000
set_option maxHeartbeats 4000000
namespace Pv
open PySem PySem.Spec PyProof.Rows L2
/-! ### what is walked -/
mutual
theorem same_eq : ∀ a b : D, same a b = true → a = b
  | .non, b, h => by cases b <;> first | rfl | (simp [same] at h)
  | .bl x, b, h => by cases b <;> first | (simp [same] at h; subst h; rfl) | (simp [same] at h)
  | .int x, b, h => by cases b <;> first | (simp [same] at h; subst h; rfl) | (simp [same] at h)
  | .str x, b, h => by cases b <;> first | (simp [same] at h; subst h; rfl) | (simp [same] at h)
  | .loc x, b, h => by cases b <;> first | (simp [same] at h; subst h; rfl) | (simp [same] at h)
  | .tup xs, b, h => by
    cases b with
    | tup ys => simp only [same] at h; rw [sames_eq xs ys h]
    | _ => simp [same] at h
  | .lst xs, b, h => by
    cases b with
    | lst ys => simp only [same] at h; rw [sames_eq xs ys h]
    | _ => simp [same] at h
  | .set xs, b, h => by
    cases b with
    | set ys => simp only [same] at h; rw [sames_eq xs ys h]
    | _ => simp [same] at h
  | .dct ks vs, b, h => by
    cases b with
    | dct ks' vs' => simp only [same, Bool.and_eq_true] at h; rw [sames_eq ks ks' h.1, sames_eq vs vs' h.2]
    | _ => simp [same] at h
theorem sames_eq : ∀ a b : List D, sames a b = true → a = b
  | [], b, h => by cases b <;> first | rfl | (simp [sames] at h)
  | x :: r, b, h => by
    cases b with
    | nil => simp [sames] at h
    | cons y t => simp only [sames, Bool.and_eq_true] at h; rw [same_eq x y h.1, sames_eq r t h.2]
end
section
variable {K : PySem.W.Frag} {W W' W1 : Wd} {H H' H1 : Hp} {s s' : Sto} {a : Addr} {xs : List D}
/-- a list's items: a value's own, or a cell's -/
def LQ (K : PySem.W.Frag) (a : Addr) (xs : List D) (o : Option Nat) (W : Wd) (H : Hp) : Prop :=
  match o with
  | none => ∃ vs, LstAt K W H a vs ∧ Reps K W H xs vs
  | some n => W.rho[n]? = some a
def gdOf (xs : List D) : Option Nat → Gd
  | none => []
  | some n => [(n, xs)]
theorem LQ.get {o : Option Nat} {gd : Gd} (hs : ∀ p ∈ gdOf xs o, p ∈ gd) (R : RelSt K W s H) (g : gok s gd = true) (q : LQ K a xs o W H) : ∃ vs, SqL K H a vs ∧ Reps K W H xs vs := by
  cases o with
  | none => obtain ⟨vs, h, r⟩ := q; exact ⟨vs, h.sq, r⟩
  | some n =>
    have hm : (n, xs) ∈ gd := hs _ (by simp [gdOf])
    have hg : ∀ gd : Gd, (n, xs) ∈ gd → gok s gd = true → s.getD n .non = .lst xs := by
      intro gd
      induction gd with
      | nil => intro h; simp at h
      | cons p r ih =>
        intro h g
        obtain ⟨m, ys⟩ := p
        simp only [gok, Bool.and_eq_true] at g
        rcases List.mem_cons.mp h with z | z
        · cases z
          exact same_eq _ _ g.1
        · exact ih z g.2
    have e := hg gd hm g
    obtain ⟨ds, vs, e1, e2, e3, _⟩ := R.cell n a q
    rw [List.getD_eq_getElem?_getD, e1] at e
    cases e
    exact ⟨vs, SqL.of e2, e3⟩
theorem LQ.mono {o : Option Nat} (k : Keeps K W H W' H' W.rho.length) (q : LQ K a xs o W H) : LQ K a xs o W' H' := by
  cases o with
  | none => obtain ⟨vs, h, r⟩ := q; exact ⟨vs, k.lst _ _ h, Reps.by k xs (reps_below xs r) r⟩
  | some n => exact k.loc n a (List.getElem?_eq_some_iff.mp q).1 q
/-- a tuple's items -/
def TQ (K : PySem.W.Frag) (a : Addr) (xs : List D) (W : Wd) (H : Hp) : Prop := ∃ vs, SqT K H a vs ∧ Reps K W H xs vs
theorem TQ.mono (k : Keeps K W H W' H' W.rho.length) (q : TQ K a xs W H) : TQ K a xs W' H' := by
  obtain ⟨vs, h, r⟩ := q
  exact ⟨vs, k.tup _ _ h, Reps.by k xs (reps_below xs r) r⟩
theorem Reps.at {ds : List D} {vs : List V} {i : Nat} (r : Reps K W H ds vs) (h : i < ds.length) : ∃ v, vs[i]? = some v ∧ Rep K W H ds[i] v := r.get (List.getElem?_eq_getElem h)
theorem wd_list {o : Option Nat} {gd : Gd} (hs : ∀ p ∈ gdOf xs o, p ∈ gd) : WalkD K (Itl K a) xs gd (LQ K a xs o) where
  mono := LQ.mono
  go := fun i W s H hi R g q => by
    obtain ⟨vs, h, r⟩ := q.get hs R g
    obtain ⟨v, e, _⟩ := r.at hi
    exact ⟨vs, v, h, e⟩
  stop := fun W s H R g q => by
    obtain ⟨vs, h, r⟩ := q.get hs R g
    exact ⟨vs, h, by rw [r.length]; exact Nat.le_refl _⟩
  yld := fun i W s H x H' hi R g q y => by
    obtain ⟨vs, h, r⟩ := q.get hs R g
    obtain ⟨v, e, rv⟩ := r.at hi
    obtain ⟨e1, e2⟩ := y
    subst e1
    have := e2 vs h
    rw [e] at this
    cases this
    exact ⟨xs[i], List.getElem?_eq_getElem hi, Pres.refl, R, rv⟩
theorem wd_tup {gd : Gd} : WalkD K (Itt K a) xs gd (TQ K a xs) where
  mono := TQ.mono
  go := fun i W s H hi R g q => by
    obtain ⟨vs, h, r⟩ := q
    obtain ⟨v, e, _⟩ := r.at hi
    exact ⟨vs, v, h, e⟩
  stop := fun W s H R g q => by
    obtain ⟨vs, h, r⟩ := q
    exact ⟨vs, h, by rw [r.length]; exact Nat.le_refl _⟩
  yld := fun i W s H x H' hi R g q y => by
    obtain ⟨vs, h, r⟩ := q
    obtain ⟨v, e, rv⟩ := r.at hi
    obtain ⟨e1, e2⟩ := y
    subst e1
    have := e2 vs h
    rw [e] at this
    cases this
    exact ⟨xs[i], List.getElem?_eq_getElem hi, Pres.refl, R, rv⟩
theorem rev_at {i : Nat} (h : i < xs.length) : xs.reverse[i]? = some (xs[xs.length - 1 - i]'(by omega)) := by
  rw [List.getElem?_reverse h, List.getElem?_eq_getElem (by omega)]
theorem wd_rev {o : Option Nat} {gd : Gd} {n : Nat} (hn : n = xs.length) (hs : ∀ p ∈ gdOf xs o, p ∈ gd) : WalkD K (Itv K a n) xs.reverse gd (LQ K a xs o) where
  mono := LQ.mono
  go := fun i W s H hi R g q => by
    subst hn
    rw [List.length_reverse] at hi
    obtain ⟨vs, h, r⟩ := q.get hs R g
    obtain ⟨v, e, _⟩ := r.at (i := xs.length - 1 - i) (by omega)
    exact ⟨hi, vs, v, h, e⟩
  stop := fun W s H R g q => by subst hn; show xs.length ≤ xs.reverse.length; simp
  yld := fun i W s H x H' hi R g q y => by
    subst hn
    rw [List.length_reverse] at hi
    obtain ⟨vs, h, r⟩ := q.get hs R g
    obtain ⟨v, e, rv⟩ := r.at (i := xs.length - 1 - i) (by omega)
    obtain ⟨e1, e2⟩ := y
    subst e1
    have := e2 vs h
    rw [e] at this
    cases this
    exact ⟨_, rev_at hi, Pres.refl, R, rv⟩
theorem wd_revT {gd : Gd} {n : Nat} (hn : n = xs.length) : WalkD K (RT.ItvT K a n) xs.reverse gd (TQ K a xs) where
  mono := TQ.mono
  go := fun i W s H hi R g q => by
    subst hn
    rw [List.length_reverse] at hi
    obtain ⟨vs, h, r⟩ := q
    obtain ⟨v, e, _⟩ := r.at (i := xs.length - 1 - i) (by omega)
    exact ⟨hi, vs, v, h, e⟩
  stop := fun W s H R g q => by subst hn; show xs.length ≤ xs.reverse.length; simp
  yld := fun i W s H x H' hi R g q y => by
    subst hn
    rw [List.length_reverse] at hi
    obtain ⟨vs, h, r⟩ := q
    obtain ⟨v, e, rv⟩ := r.at (i := xs.length - 1 - i) (by omega)
    obtain ⟨e1, e2⟩ := y
    subst e1
    have := e2 vs h
    rw [e] at this
    cases this
    exact ⟨_, rev_at hi, Pres.refl, R, rv⟩
theorem rangeD_len {lo c : Int} {n : Nat} : (rangeD lo n c).length = n := by simp [rangeD]
theorem rangeD_at {lo c : Int} {n i : Nat} (h : i < n) : (rangeD lo n c)[i]? = some (.int (lo + (i : Int) * c)) := by simp [rangeD, h]
theorem wd_range {gd : Gd} {lo : Int} {n : Nat} : WalkD K (Itr lo n) (rangeD lo n 1) gd (fun _ _ => True) where
  mono := fun _ q => q
  go := fun i W s H hi R g q => by rw [rangeD_len] at hi; exact hi
  stop := fun W s H R g q => by rw [rangeD_len]; exact Nat.le_refl _
  yld := fun i W s H x H' hi R g q y => by
    rw [rangeD_len] at hi
    obtain ⟨e1, e2⟩ := y
    subst e1
    exact ⟨_, rangeD_at hi, Pres.refl, R, by rw [Int.mul_one]; exact e2⟩
theorem wd_rangeC {gd : Gd} {lo c : Int} {n : Nat} : WalkD K (Itc lo c n) (rangeD lo n c) gd (fun _ _ => True) where
  mono := fun _ q => q
  go := fun i W s H hi R g q => by rw [rangeD_len] at hi; exact hi
  stop := fun W s H R g q => by rw [rangeD_len]; exact Nat.le_refl _
  yld := fun i W s H x H' hi R g q y => by
    rw [rangeD_len] at hi
    obtain ⟨e1, e2⟩ := y
    subst e1
    exact ⟨_, rangeD_at hi, Pres.refl, R, e2⟩
theorem wd_str {gd : Gd} {z : Str} : WalkD K (Its z) (z.cps.toList.map fun c => .str ⟨#[c]⟩) gd (fun _ _ => True) where
  mono := fun _ q => q
  go := fun i W s H hi R g q => by show i < z.cps.size; simpa using hi
  stop := fun W s H R g q => by show z.cps.size ≤ _; simp
  yld := fun i W s H x H' hi R g q y => by
    obtain ⟨e1, c, e2, e3⟩ := y
    subst e1
    refine ⟨.str ⟨#[c]⟩, ?_, Pres.refl, R, e3⟩
    simp [e2]
theorem enumD_len : ∀ (k : Nat) (xs : List D), (enumD k xs).length = xs.length
  | _, [] => rfl
  | k, _ :: xs => by simp [enumD, enumD_len (k + 1) xs]
theorem enumD_at : ∀ (k : Nat) (xs : List D) (i : Nat), (enumD k xs)[i]? = xs[i]?.map fun x => .tup [.int ((k + i : Nat) : Int), x]
  | _, [], _ => by simp [enumD]
  | k, x :: xs, 0 => by simp [enumD]
  | k, x :: xs, i + 1 => by
    simp only [enumD, List.getElem?_cons_succ]
    rw [enumD_at (k + 1) xs i, show k + 1 + i = k + (i + 1) by omega]
theorem pair_new {T : Addr} {d e : D} {x y : V} (R : RelSt K W s H) (hd : Rep K W H d x) (he : Rep K W H e y) (h : H T = none) : Pres W H W (upd H T (.tup [x, y])) ∧ RelSt K W s (upd H T (.tup [x, y])) ∧ Rep K W (upd H T (.tup [x, y])) (.tup [d, e]) (.ref T) := by
  have g := Got.tupNew (fr := false) (p := T) R (ds := [d, e]) (vs := [x, y]) ⟨x, [y], rfl, hd, y, [], rfl, he, rfl⟩ h
  exact ⟨g.pres, g.st, g.rep⟩
theorem wd_enum {o : Option Nat} {gd : Gd} (hs : ∀ p ∈ gdOf xs o, p ∈ gd) : WalkD K (Ite K a) (enumD 0 xs) gd (LQ K a xs o) where
  mono := LQ.mono
  go := fun i W s H hi R g q => by
    rw [enumD_len] at hi
    obtain ⟨vs, h, r⟩ := q.get hs R g
    obtain ⟨v, e, _⟩ := r.at hi
    exact ⟨vs, v, h, e⟩
  stop := fun W s H R g q => by
    obtain ⟨vs, h, r⟩ := q.get hs R g
    exact ⟨vs, h, by rw [enumD_len, r.length]; exact Nat.le_refl _⟩
  yld := fun i W s H x H' hi R g q y => by
    rw [enumD_len] at hi
    obtain ⟨vs, h, r⟩ := q.get hs R g
    obtain ⟨v, e, rv⟩ := r.at hi
    obtain ⟨T, u, e1, e2, e3, e4⟩ := y
    have := e4 vs h
    rw [e] at this
    cases this
    subst e1 e3
    obtain ⟨p1, p2, p3⟩ := pair_new (d := .int ((i : Nat) : Int)) (x := .int (i : Nat)) R rfl rv e2
    refine ⟨_, ?_, p1, p2, p3⟩
    rw [enumD_at, List.getElem?_eq_getElem hi, Nat.zero_add]
    rfl
theorem zipD_len : ∀ (xs ys : List D), (zipD xs ys).length = min xs.length ys.length
  | [], ys => by simp [zipD]
  | _ :: _, [] => by simp [zipD]
  | x :: xs, y :: ys => by simp only [zipD, List.length_cons, zipD_len xs ys]; omega
theorem zipD_at : ∀ (xs ys : List D) (i : Nat) (h1 : i < xs.length) (h2 : i < ys.length), (zipD xs ys)[i]? = some (.tup [xs[i], ys[i]])
  | [], _, _, h, _ => by simp at h
  | _ :: _, [], _, _, h => by simp at h
  | x :: xs, y :: ys, 0, _, _ => by simp [zipD]
  | x :: xs, y :: ys, i + 1, h1, h2 => by
    simp only [zipD, List.getElem?_cons_succ, List.getElem_cons_succ]
    exact zipD_at xs ys i _ _
theorem wd_zip {b : Addr} {ys : List D} {o p : Option Nat} {gd : Gd} (hs : ∀ q ∈ gdOf xs o, q ∈ gd) (hs2 : ∀ q ∈ gdOf ys p, q ∈ gd) : WalkD K (Itz K a b) (zipD xs ys) gd (fun W H => LQ K a xs o W H ∧ LQ K b ys p W H) where
  mono := fun k q => ⟨q.1.mono k, q.2.mono k⟩
  go := fun i W s H hi R g q => by
    rw [zipD_len] at hi
    obtain ⟨vs, h, r⟩ := q.1.get hs R g
    obtain ⟨ws, h', r'⟩ := q.2.get hs2 R g
    obtain ⟨v, e, _⟩ := r.at (i := i) (by omega)
    obtain ⟨w, e', _⟩ := r'.at (i := i) (by omega)
    exact ⟨vs, ws, v, w, h, h', e, e'⟩
  stop := fun W s H R g q => by
    obtain ⟨vs, h, r⟩ := q.1.get hs R g
    obtain ⟨ws, h', r'⟩ := q.2.get hs2 R g
    have := r.length
    have := r'.length
    exact ⟨vs, ws, h, h', by rw [zipD_len]; omega⟩
  yld := fun i W s H x H' hi R g q y => by
    rw [zipD_len] at hi
    obtain ⟨vs, h, r⟩ := q.1.get hs R g
    obtain ⟨ws, h', r'⟩ := q.2.get hs2 R g
    obtain ⟨v, e, rv⟩ := r.at (i := i) (by omega)
    obtain ⟨w, e', rw'⟩ := r'.at (i := i) (by omega)
    obtain ⟨T, u, u', e1, e2, e3, e4, e5⟩ := y
    have q4 := e4 vs h
    rw [e] at q4
    cases q4
    have q5 := e5 ws h'
    rw [e'] at q5
    cases q5
    subst e1 e3
    obtain ⟨p1, p2, p3⟩ := pair_new R rv rw' e2
    exact ⟨_, zipD_at xs ys i (by omega) (by omega), p1, p2, p3⟩
theorem wd_zipT {b : Addr} {ys : List D} {gd : Gd} : WalkD K (RZ.ItzT K a b) (zipD xs ys) gd (fun W H => TQ K a xs W H ∧ TQ K b ys W H) where
  mono := fun k q => ⟨q.1.mono k, q.2.mono k⟩
  go := fun i W s H hi R g q => by
    rw [zipD_len] at hi
    obtain ⟨⟨vs, h, r⟩, ⟨ws, h', r'⟩⟩ := q
    obtain ⟨v, e, _⟩ := r.at (i := i) (by omega)
    obtain ⟨w, e', _⟩ := r'.at (i := i) (by omega)
    exact ⟨vs, ws, v, w, h, h', e, e'⟩
  stop := fun W s H R g q => by
    obtain ⟨⟨vs, h, r⟩, ⟨ws, h', r'⟩⟩ := q
    have := r.length
    have := r'.length
    exact ⟨vs, ws, h, h', by rw [zipD_len]; omega⟩
  yld := fun i W s H x H' hi R g q y => by
    rw [zipD_len] at hi
    obtain ⟨⟨vs, h, r⟩, ⟨ws, h', r'⟩⟩ := q
    obtain ⟨v, e, rv⟩ := r.at (i := i) (by omega)
    obtain ⟨w, e', rw'⟩ := r'.at (i := i) (by omega)
    obtain ⟨T, u, u', e1, e2, e3, e4, e5⟩ := y
    have q4 := e4 vs h
    rw [e] at q4
    cases q4
    have q5 := e5 ws h'
    rw [e'] at q5
    cases q5
    subst e1 e3
    obtain ⟨p1, p2, p3⟩ := pair_new R rv rw' e2
    exact ⟨_, zipD_at xs ys i (by omega) (by omega), p1, p2, p3⟩
/-- a value as a list or a tuple -/
inductive SeqV (K : PySem.W.Frag) (W : Wd) (s : Sto) (H : Hp) (xs : List D) (g : Gd) (a : Addr) (vs : List V) : Bool → Prop where
  | lst (o : Option Nat) (q : LQ K a xs o W H) (h : SqL K H a vs) (l : vs.length = xs.length) (hg : g = gdOf xs o) : SeqV K W s H xs g a vs false
  | tup (q : TQ K a xs W H) (h : SqT K H a vs) (l : vs.length = xs.length) (hg : g = []) : SeqV K W s H xs g a vs true
theorem walkQ_of {d : D} {v : V} {k : Bool} {g : Gd} (R : RelSt K W s H) (r : Rep K W H d v) (h : walkQ s d = some (k, xs, g)) : ∃ a vs, v = .ref a ∧ SeqV K W s H xs g a vs k := by
  unfold walkQ at h
  split at h
  · cases h
    simp only [Rep] at r
    obtain ⟨a, vs, e, t, q⟩ := r
    exact ⟨a, vs, e, .tup ⟨vs, t, q⟩ t q.length.symm rfl⟩
  · cases h
    simp only [Rep] at r
    obtain ⟨a, vs, e, t, q⟩ := r
    exact ⟨a, vs, e, .lst none ⟨vs, t, q⟩ t.sq q.length.symm rfl⟩
  · rename_i n
    split at h
    · rename_i ys e
      cases h
      simp only [Rep] at r
      obtain ⟨a, e1, q⟩ := r
      obtain ⟨ds, vs, c1, c2, c3, _⟩ := R.cell n a q
      rw [List.getD_eq_getElem?_getD, c1] at e
      cases e
      exact ⟨a, vs, e1, .lst (some n) q (SqL.of c2) c3.length.symm rfl⟩
    · cases h
  · cases h
end
end Pv
end
section
set_option maxRecDepth 100000
set_option maxHeartbeats 4000000
namespace Pv
open PySem PySem.Spec PyProof.Rows L2
section
variable {G : GC} {S : SX} {C : Cl} {Wx Wx' : WX} {ea : Nat → Addr} {k : Nat} {X : Cx} {tg : Expr}
theorem PI.by {e : Expr} {t t' : TI} (h : PI X tg e t) (i : ∀ σ H R, t' σ H R → t σ H R) : PI X tg e t' := ⟨fun pins s σ H R I q => h.run pins s σ H R I (i σ H R q)⟩
theorem PG.by {e : Expr} {t t' : TG} (h : PG X e t) (i : ∀ v σ H Q, t' v σ H Q → t v σ H Q) : PG X e t' := ⟨fun pins s σ H v u Q I r q => h.run pins s σ H v u Q I r (i v σ H Q q)⟩
theorem i_of {a : CE} {x : Expr} (ha : PE X x (tE C X.K Wx ea false a)) : PI X tg x (tI C X.K Wx ea (.of a)) := by
  refine ⟨fun pins s σ H R I h => ?_⟩
  obtain ⟨W, e, st, Rs, En, h⟩ := h
  simp only [evI] at h
  cases q : evE C a e st with
  | bad => rw [q] at h; exact h.elim
  | exc k v s' => rw [q] at h; exact (pi_list ha).run pins s σ H R I ⟨W, e, st, Rs, En, by rw [q]; exact h⟩
  | ok d s1 =>
    rw [q] at h
    simp only [Out.bind] at h
    have go : ∀ {Q : VK}, (∀ W' H' v, Got X.K false W H W' s1 H' d v → Q v H') → tE C X.K Wx ea false a σ H Q := fun hq => ⟨W, e, st, Rs, En, by rw [q]; exact hq⟩
    cases d with
    | tup xs =>
      refine (pi_tup ha).run pins s σ H R I (go fun W' H' v g => ?_)
      have r := g.rep
      simp only [Rep] at r
      obtain ⟨p, vs, e1, t, r⟩ := r
      exact ⟨p, e1, ⟨vs, t⟩, h W' H' _ ⟨g.pres, g.st, _, wd_tup, vs, t, r⟩⟩
    | lst xs =>
      refine (pi_list ha).run pins s σ H R I (go fun W' H' v g => ?_)
      have r := g.rep
      simp only [Rep] at r
      obtain ⟨p, vs, e1, t, r⟩ := r
      exact ⟨p, e1, ⟨vs, t.sq⟩, h W' H' _ ⟨g.pres, g.st, _, wd_list (o := none) (fun _ z => by simp [gdOf] at z), vs, t, r⟩⟩
    | loc n =>
      refine (pi_list ha).run pins s σ H R I (go fun W' H' v g => ?_)
      have r := g.rep
      simp only [Rep] at r
      obtain ⟨p, e1, r⟩ := r
      obtain ⟨ds, vs, c1, c2, c3, _⟩ := g.st.cell n p r
      have e : s1.getD n .non = .lst ds := by rw [List.getD_eq_getElem?_getD, c1]; rfl
      simp only [walkD, e] at h
      exact ⟨p, e1, ⟨vs, SqL.of c2⟩, h W' H' _ ⟨g.pres, g.st, _, wd_list (o := some n) (fun _ z => z), r⟩⟩
    | str z =>
      refine (pi_str ha).run pins s σ H R I (go fun W' H' v g => ?_)
      exact ⟨z, g.rep, h W' H' _ ⟨g.pres, g.st, _, wd_str, trivial⟩⟩
    | _ => exact h.elim
theorem i_rev {a : CE} {x : Str} {y : Expr} {p pos : Pos} (c : Ctx G S C Wx ea k X) (hx : x = "reversed") (hf : freeB G S x = true) (hs : noStar y = true) (ha : PE X y (tE C X.K Wx ea false a)) :
    PI X tg (.Call (.Name x p) [y] [] pos) (tI C X.K Wx ea (.rev a)) := by
  subst hx
  unfold freeB at hf
  simp only [Bool.and_eq_true] at hf
  refine PI.by (RT.pi_revA (c.gl hf.1).1 (c.free _ hf.2) ha (star_cons hs)) fun σ H R h => ?_
  obtain ⟨W, e, s, Rs, En, h⟩ := h
  simp only [evI] at h
  refine ⟨W, e, s, Rs, En, (Sat.bind GE.gt GI.gt h).imp fun v H1 ⟨W1, s1, d1, g1, h1⟩ => ?_⟩
  cases q : walkQ s1 d1 with
  | none => rw [q] at h1; exact h1.elim
  | some z =>
    obtain ⟨kk, xs, g⟩ := z
    rw [q] at h1
    obtain ⟨p, vs, e1, sq⟩ := walkQ_of g1.st g1.rep q
    refine ⟨p, vs, e1, ?_⟩
    cases sq with
    | lst o q' h l hg => exact .inl ⟨h, h1 W1 H1 _ ⟨Pres.refl, g1.st, _, wd_rev l (o := o) (fun _ z => by rw [hg]; exact z), q'⟩⟩
    | tup q' h l hg => exact .inr ⟨h, h1 W1 H1 _ ⟨Pres.refl, g1.st, _, wd_revT l, q'⟩⟩
theorem i_enum {a : CE} {x : Str} {y : Expr} {p pos tpos : Pos} {elts : List Expr} {kk : Nat} (c : Ctx G S C Wx ea k X) (hx : x = "enumerate") (hf : freeB G S x = true) (hs : noStar y = true) (ha : PE X y (tE C X.K Wx ea false a)) :
    PI X (.Tuple elts kk tpos) (.Call (.Name x p) [y] [] pos) (tI C X.K Wx ea (.enum a)) := by
  subst hx
  unfold freeB at hf
  simp only [Bool.and_eq_true] at hf
  refine PI.by (pi_enum (c.gl hf.1).1 (c.free _ hf.2) (pa_cons ha pa_nil (star_cons hs)) (star_cons hs)) fun σ H R h => ?_
  obtain ⟨W, e, s, Rs, En, h⟩ := h
  simp only [evI] at h
  refine ⟨W, e, s, Rs, En, (Sat.bind GE.gt GI.gt h).imp fun v H1 ⟨W1, s1, d1, g1, h1⟩ => ?_⟩
  split at h1
  · rename_i xs g q
    obtain ⟨p, vs, e1, sq⟩ := walkQ_of g1.st g1.rep q
    cases sq with
    | lst o q h l hg => exact ⟨p, vs, by rw [e1], h, h1 W1 H1 _ ⟨Pres.refl, g1.st, _, wd_enum (o := o) (fun _ z => by rw [hg]; exact z), q⟩⟩
  · exact h1.elim
theorem i_zip {a b : CE} {x : Str} {y z : Expr} {p pos tpos : Pos} {elts : List Expr} {kk : Nat} (c : Ctx G S C Wx ea k X) (hx : x = "zip") (hf : freeB G S x = true) (hs : noStar y = true) (hs2 : noStar z = true) (ha : PE X y (tE C X.K Wx ea false a)) (hb : PE X z (tE C X.K Wx ea false b)) :
    PI X (.Tuple elts kk tpos) (.Call (.Name x p) [y, z] [] pos) (tI C X.K Wx ea (.zip a b)) := by
  subst hx
  unfold freeB at hf
  simp only [Bool.and_eq_true] at hf
  refine PI.by (RZ.pi_zipA (c.gl hf.1).1 (c.free _ hf.2) (pa_cons ha (pa_cons hb pa_nil (star_cons hs2)) (star_cons hs)) (star_cons hs) (by rw [star_cons hs2]; rfl)) fun σ H R h => ?_
  obtain ⟨W, e, s, Rs, En, h⟩ := h
  simp only [evI] at h
  refine ⟨W, e, s, Rs, En, (Sat.bind GE.gt GI.gt h).imp fun v H1 ⟨W1, s1, d1, g1, h1⟩ => ?_⟩
  refine ⟨W1, e, s1, g1.st, En.pres g1.pres, (Sat.bind GE.gt GI.gt h1).imp fun w H2 ⟨W2, s2, d2, g2, h2⟩ => ?_⟩
  split at h2
  · rename_i k1 xs ga k2 ys gb q1 q2
    obtain ⟨p1, vs, e1, sq⟩ := walkQ_of g2.st (Rep.pres g2.pres g1.rep) q1
    obtain ⟨p2, ws, e2, sq2⟩ := walkQ_of g2.st g2.rep q2
    split at h2
    · rename_i hk
      subst hk
      refine ⟨p1, p2, vs, ws, by rw [e1, e2], ?_⟩
      cases sq with
      | lst o q h l hg =>
        cases sq2 with
        | lst o2 q2 h' l2 hg2 => exact .inl ⟨h, h', h2 W2 H2 _ ⟨Pres.refl, g2.st, _, wd_zip (o := o) (p := o2) (fun _ z => by rw [hg]; exact List.mem_append_left _ z) (fun _ z => by rw [hg2]; exact List.mem_append_right _ z), q, q2⟩⟩
      | tup q h l hg =>
        cases sq2 with
        | tup q2 h' l2 hg2 => exact .inr ⟨h, h', h2 W2 H2 _ ⟨Pres.refl, g2.st, _, wd_zipT, q, q2⟩⟩
    · exact h2.elim
  · exact h2.elim
theorem inR_of {i : Int} (h : inR i = true) : -(2 ^ 62) ≤ i ∧ i < 2 ^ 62 := by
  unfold inR at h
  exact of_decide_eq_true h
theorem i_range {es : CEs} {x : Str} {xs : List Expr} {p pos : Pos} (c : Ctx G S C Wx ea k X) (hx : x = "range") (hf : freeB G S x = true) (hc : chkEs G S es xs = true) (hl : xs.length ≤ 3) (ha : PA X xs (tA C X.K Wx ea es)) :
    PI X tg (.Call (.Name x p) xs [] pos) (tI C X.K Wx ea (.range es)) := by
  subst hx
  unfold freeB at hf
  simp only [Bool.and_eq_true] at hf
  have rd : ∀ (σ : L2.St) (H : Hp) (R : It → Hp → Prop), tI C X.K Wx ea (.range es) σ H R → tA C X.K Wx ea es σ H fun vs H1 => ∃ W1 s1 ds l, Pres W1 H1 W1 H1 ∧ RelSt X.K W1 s1 H1 ∧ Reps X.K W1 H1 ds vs ∧ vs.length = xs.length ∧ rngD ds = some l ∧ Sat X.K Wx ea σ (GI X.K) W1 H1 (.ok (l, []) s1) R := fun σ H R h => by
    obtain ⟨W, e, s, Rs, En, h⟩ := h
    simp only [evI] at h
    obtain ⟨W0, e0, s0, R0, En0, h0⟩ := t_args GI.gt hc Rs En h
    refine ⟨W0, e0, s0, R0, En0, h0.imp fun vs H1 ⟨W1, s1, ds, p1, r1, q1, l1, h1⟩ => ?_⟩
    cases q : rngD ds with
    | none => rw [q] at h1; exact h1.elim
    | some l => rw [q] at h1; exact ⟨W1, s1, ds, l, Pres.refl, r1, q1, l1, q, h1⟩
  have hs : ∀ (y : Expr) (ys : List Expr), xs = y :: ys → noStar y = true ∧ (backTo pos (starEach ys X.env)).any (·.1) = false := fun y ys e => by
    subst e
    cases es with
    | nil => simp [chkEs] at hc
    | cons a r => simp only [chkEs, Bool.and_eq_true] at hc; exact ⟨hc.1.1, star_any hc.2⟩
  match xs, hl, hc, ha, hs, rd with
  | [], _, hc, ha, hs, rd =>
    refine ⟨fun pins s σ H R I h => ?_⟩
    obtain ⟨W, e, st, Rs, En, h⟩ := h
    cases es with
    | nil => exact h.elim
    | cons a r => simp [chkEs] at hc
  | [y], _, hc, ha, hs, rd =>
    refine PI.by (pi_range1 (c.gl hf.1).1 (c.free _ hf.2) ha (star_cons (hs _ _ rfl).1)) fun σ H R h => ?_
    obtain ⟨W, e, s, Rs, En, h0⟩ := rd σ H R h
    refine ⟨W, e, s, Rs, En, h0.imp fun vs H1 ⟨W1, s1, ds, l, p1, r1, q1, l1, e1, h1⟩ => ?_⟩
    have hl := q1.length
    unfold rngD at e1
    split at e1
    · rename_i j
      split at e1
      · rename_i hj
        cases e1
        simp only [Reps, Rep] at q1
        obtain ⟨v, r, e2, e3, e4⟩ := q1
        subst e4 e2 e3
        exact ⟨j, rfl, (inR_of hj).1, (inR_of hj).2, h1 W1 H1 _ ⟨Pres.refl, r1, _, wd_range, trivial⟩⟩
      · cases e1
    · simp at hl l1; omega
    · simp at hl l1; omega
    · cases e1
  | [y, z], _, hc, ha, hs, rd =>
    have nz : noStar z = true := by
      cases es with
      | nil => simp [chkEs] at hc
      | cons a r =>
        simp only [chkEs, Bool.and_eq_true] at hc
        cases r with
        | nil => simp [chkEs] at hc
        | cons b r => simp only [chkEs, Bool.and_eq_true] at hc; exact hc.2.1.1
    refine PI.by (pi_range2 (c.gl hf.1).1 (c.free _ hf.2) ha (by rw [star_cons (hs _ _ rfl).1, star_cons nz]; rfl) (star_cons nz)) fun σ H R h => ?_
    obtain ⟨W, e, s, Rs, En, h0⟩ := rd σ H R h
    refine ⟨W, e, s, Rs, En, h0.imp fun vs H1 ⟨W1, s1, ds, l, p1, r1, q1, l1, e1, h1⟩ => ?_⟩
    have hl := q1.length
    unfold rngD at e1
    split at e1
    · simp at hl l1; omega
    · rename_i i j
      split at e1
      · rename_i hj
        simp only [Bool.and_eq_true] at hj
        cases e1
        simp only [Reps, Rep] at q1
        obtain ⟨v, r, e2, e3, v2, r2, e4, e5, e6⟩ := q1
        subst e6 e4 e2 e3 e5
        exact ⟨i, j, rfl, ⟨(inR_of hj.1).1, (inR_of hj.1).2, (inR_of hj.2).1, (inR_of hj.2).2⟩, h1 W1 H1 _ ⟨Pres.refl, r1, _, wd_range, trivial⟩⟩
      · cases e1
    · simp at hl l1; omega
    · cases e1
  | [y, z, u], _, hc, ha, hs, rd =>
    refine PI.by (pi_range3 (c.gl hf.1).1 (c.free _ hf.2) ha (star_cons (hs _ _ rfl).1) (hs _ _ rfl).2) fun σ H R h => ?_
    obtain ⟨W, e, s, Rs, En, h0⟩ := rd σ H R h
    refine ⟨W, e, s, Rs, En, h0.imp fun vs H1 ⟨W1, s1, ds, l, p1, r1, q1, l1, e1, h1⟩ => ?_⟩
    have hl := q1.length
    unfold rngD at e1
    split at e1
    · simp at hl l1; omega
    · simp at hl l1; omega
    · rename_i i j cc
      split at e1
      · rename_i hj
        simp only [Bool.and_eq_true, decide_eq_true_eq] at hj
        obtain ⟨⟨h1', h2'⟩, h3'⟩ := hj
        subst h3'
        cases e1
        simp only [Reps, Rep] at q1
        obtain ⟨v, r, e2, e3, v2, r2, e4, e5, v3, r3, e6, e7, e8⟩ := q1
        subst e8 e6 e4 e2 e3 e5 e7
        exact ⟨i, j, -1, _, rfl, RgC.neg (inR_of h1').1 (inR_of h1').2 (inR_of h2').1 (inR_of h2').2, h1 W1 H1 _ ⟨Pres.refl, r1, _, wd_rangeC, trivial⟩⟩
      · cases e1
    · cases e1
  | y :: z :: u :: w :: r, hl, _, _, _, _ => simp at hl
theorem i_revr1 {a : CE} {x x2 : Str} {y : Expr} {p p2 pos pos2 : Pos} (c : Ctx G S C Wx ea k X) (hx : x = "reversed") (hf : freeB G S x = true) (hx2 : x2 = "range") (hf2 : freeB G S x2 = true) (hs : noStar y = true) (ha : PE X y (tE C X.K Wx ea false a)) :
    PI X tg (.Call (.Name x p) [.Call (.Name x2 p2) [y] [] pos2] [] pos) (tI C X.K Wx ea (.revr (.cons a .nil))) := by
  subst hx hx2
  unfold freeB at hf hf2
  simp only [Bool.and_eq_true] at hf hf2
  refine PI.by (pi_revR (c.gl hf.1).1 (c.free _ hf.2) (prg_1 (c.gl hf2.1).1 (c.free _ hf2.2) ha (star_cons hs))) fun σ H R h => ?_
  obtain ⟨W, e, s, Rs, En, h⟩ := h
  simp only [evI, evEs, bind_assoc] at h
  refine ⟨W, e, s, Rs, En, (Sat.bind GE.gt GI.gt h).imp fun v H1 ⟨W1, s1, d1, g1, h1⟩ => ?_⟩
  simp only [Out.bind] at h1
  cases q : rrngD [d1] with
  | none => rw [q] at h1; exact h1.elim
  | some l =>
    rw [q] at h1
    unfold rrngD at q
    split at q
    · rename_i j e
      split at q
      · rename_i hj
        cases q
        cases e
        have hv : v = .int j := g1.rep
        refine ⟨j, hv, by decide, by decide, (inR_of hj).1, (inR_of hj).2, h1 W1 H1 _ ⟨Pres.refl, g1.st, (fun _ _ => True), ?_, trivial⟩⟩
        rw [show (0 : Int) + (((j - 0).toNat : Nat) : Int) - 1 = ((j.toNat : Nat) : Int) - 1 by rw [Int.sub_zero]; omega, show (j - 0).toNat = j.toNat by rw [Int.sub_zero]]
        exact wd_rangeC
      · cases q
    · rename_i e; cases e
    · cases q
theorem i_revr2 {a b : CE} {x x2 : Str} {y z : Expr} {p p2 pos pos2 : Pos} (c : Ctx G S C Wx ea k X) (hx : x = "reversed") (hf : freeB G S x = true) (hx2 : x2 = "range") (hf2 : freeB G S x2 = true) (hs : noStar y = true) (hs2 : noStar z = true) (ha : PE X y (tE C X.K Wx ea false a)) (hb : PE X z (tE C X.K Wx ea false b)) :
    PI X tg (.Call (.Name x p) [.Call (.Name x2 p2) [y, z] [] pos2] [] pos) (tI C X.K Wx ea (.revr (.cons a (.cons b .nil)))) := by
  subst hx hx2
  unfold freeB at hf hf2
  simp only [Bool.and_eq_true] at hf hf2
  refine PI.by (pi_revR (c.gl hf.1).1 (c.free _ hf.2) (prg_2 (c.gl hf2.1).1 (c.free _ hf2.2) ha hb (star_cons hs) (star_cons hs2) (by rw [star_cons hs2]; rfl))) fun σ H R h => ?_
  obtain ⟨W, e, s, Rs, En, h⟩ := h
  simp only [evI, evEs, bind_assoc] at h
  refine ⟨W, e, s, Rs, En, (Sat.bind GE.gt GI.gt h).imp fun v H1 ⟨W1, s1, d1, g1, h1⟩ => ?_⟩
  refine ⟨W1, e, s1, g1.st, En.pres g1.pres, (Sat.bind GE.gt GI.gt h1).imp fun w H2 ⟨W2, s2, d2, g2, h2⟩ => ?_⟩
  simp only [Out.bind] at h2
  cases q : rrngD [d1, d2] with
  | none => rw [q] at h2; exact h2.elim
  | some l =>
    rw [q] at h2
    unfold rrngD at q
    split at q
    · rename_i e; cases e
    · rename_i i j e
      split at q
      · rename_i hj
        simp only [Bool.and_eq_true] at hj
        cases q
        cases e
        have hv : v = .int i := g1.rep
        have hw : w = .int j := g2.rep
        exact ⟨i, j, hv, hw, (inR_of hj.1).1, (inR_of hj.1).2, (inR_of hj.2).1, (inR_of hj.2).2, h2 W2 H2 _ ⟨Pres.refl, g2.st, _, wd_rangeC, trivial⟩⟩
      · cases q
    · cases q
/-! ### targets -/
theorem noExc_exc {α : Type} {x : Out α} {k : Nat} {v : D} {s : Sto} : noExc x ≠ .exc k v s := by cases x <;> simp [noExc]
theorem putC_no {n : Nat} {c : D} {s : Sto} {k : Nat} {v : D} {s' : Sto} : putC n c s ≠ .exc k v s' := by unfold putC; split <;> simp
theorem setC_no {n : Nat} {i : Int} {d : D} {s : Sto} {k : Nat} {v : D} {s' : Sto} : setC n i d s ≠ .exc k v s' := by
  unfold setC
  split
  · split
    · exact putC_no
    · simp
  · simp
theorem bind_no {α β : Type} {x : Out α} {f : α → Sto → Out β} {k : Nat} {v : D} {s : Sto} (h1 : ∀ k v s, x ≠ .exc k v s) (h2 : ∀ a s1, f a s1 ≠ .exc k v s) : x.bind f ≠ .exc k v s := by
  cases x with
  | ok a s1 => exact h2 a s1
  | exc k v s => exact fun _ => h1 _ _ _ rfl
  | bad => simp [Out.bind]
mutual
theorem evT_no {c : Cl} : ∀ (t : Tg) (d : D) (e : En) (s : Sto) {k : Nat} {v : D} {s' : Sto}, evT c t d e s ≠ .exc k v s'
  | .nm i, d, e, s, k, v, s' => by simp [evT]
  | .tp ts, d, e, s, k, v, s' => by
    simp only [evT]
    split
    · exact evTs_no ts _ e s
    · exact evTs_no ts _ e s
    · simp
  | .sub o i, d, e, s, k, v, s' => by
    simp only [evT]
    refine bind_no (fun _ _ _ => noExc_exc) fun x s1 => ?_
    unfold onLoc
    split
    · refine bind_no (fun _ _ _ => noExc_exc) fun y s2 => ?_
      split
      · exact bind_no (fun _ _ _ => setC_no) fun _ _ => by simp
      · simp
    · simp
theorem evTs_no {c : Cl} : ∀ (t : Tgs) (d : List D) (e : En) (s : Sto) {k : Nat} {v : D} {s' : Sto}, evTs c t d e s ≠ .exc k v s'
  | .nil, [], e, s, k, v, s' => by simp [evTs]
  | .nil, _ :: _, e, s, k, v, s' => by simp [evTs]
  | .cons t r, [], e, s, k, v, s' => by simp [evTs]
  | .cons t r, d :: ds, e, s, k, v, s' => by
    simp only [evTs]
    exact bind_no (fun _ _ _ => evT_no t d e s) fun e1 s1 => evTs_no r ds e1 s1
end
theorem evTs_len {c : Cl} : ∀ {t : Tgs} {ds : List D} {e e' : En} {s s' : Sto} {xs : List Expr}, chkTs G S t xs = true → evTs c t ds e s = .ok e' s' → ds.length = xs.length
  | .nil, [], e, e', s, s', xs, h, q => by
    simp only [chkTs, List.isEmpty_iff] at h
    subst h
    rfl
  | .nil, _ :: _, e, e', s, s', xs, h, q => by simp [evTs] at q
  | .cons t r, [], e, e', s, s', xs, h, q => by simp [evTs] at q
  | .cons t r, d :: ds, e, e', s, s', xs, h, q => by
    cases xs with
    | nil => simp [chkTs] at h
    | cons x rest =>
      simp only [chkTs, Bool.and_eq_true] at h
      simp only [evTs] at q
      cases q1 : evT c t d e s with
      | ok e1 s1 =>
        rw [q1] at q
        simp only [Out.bind] at q
        rw [List.length_cons, List.length_cons, evTs_len h.2 q]
      | exc _ _ _ => rw [q1] at q; cases q
      | bad => rw [q1] at q; cases q
theorem Sat.noExc {K : PySem.W.Frag} {α β : Type} {G1 : Rl α β} {σ : L2.St} {W : Wd} {H : Hp} {x : Out α} {Q : β → Hp → Prop} (h : Sat K Wx ea σ G1 W H (Pv.noExc x) Q) : Sat K Wx' ea σ G1 W H x Q := by
  cases x with
  | ok a s => exact h
  | exc _ _ _ => exact h.elim
  | bad => exact h.elim
theorem RelEn.set {K : PySem.W.Frag} {W : Wd} {H : Hp} {e : En} {σ : L2.St} {d : D} {v : V} (En : RelEn K W H e σ) (r : Rep K W H d v) (i : Nat) : RelEn K W H (e.set i (some d)) (σ.set i (some v)) := by
  refine ⟨by rw [List.length_set, List.length_set]; exact En.1, fun j d' h => ?_⟩
  by_cases hj : i = j
  · subst hj
    have hi : i < e.length := by
      have := (List.getElem?_eq_some_iff.mp h).1
      rwa [List.length_set] at this
    rw [List.getElem?_set_self hi] at h
    cases h
    exact ⟨v, by rw [List.getElem?_set_self (by rw [← En.1]; exact hi)], r⟩
  · rw [List.getElem?_set_ne hj] at h
    obtain ⟨w, e1, r1⟩ := En.2 j d' h
    exact ⟨w, by rw [List.getElem?_set_ne hj]; exact e1, r1⟩
theorem g_nm {i : Nat} {x : Str} {pos : Pos} (c : Ctx G S C Wx ea k X) (hi : S.N[i]? = some x) (hs : stoB S x = true) : PG X (.Name x pos) (tG C X.K Wx' ea (.nm i)) := by
  have hl : locB S.sc x = true := by unfold stoB at hs; simp only [Bool.and_eq_true] at hs; exact hs.1
  refine PG.by (pg_name c.nd (by rw [c.N]; exact hi) (by rw [c.sc]; exact loc_of hl) (c.sto x hs)) fun v σ H Q h => ?_
  obtain ⟨W, e, s, d, R, En, r, h⟩ := h
  simp only [evT] at h
  refine h W H _ ⟨Pres.refl, R, En.set r i, List.length_set, fun j hj => ?_⟩
  simp only [tgSl, beq_eq_false_iff_ne] at hj
  rw [List.getElem?_set_ne hj]
theorem g_sub {o i : CE} {l r : Expr} {pos : Pos} (hn : noSlice r = true) (ho : PE X l (tE C X.K Wx ea false o)) (hi : PE X r (tE C X.K Wx ea false i)) : PG X (.Subscript l r pos) (tG C X.K Wx' ea (.sub o i)) := by
  refine PG.by (pg_sub ho hi set_D (fun v => by cases r <;> first | rfl | cases hn)) fun v σ H Q h => ?_
  obtain ⟨W, e, s, d, R, En, rv, h⟩ := h
  simp only [evT] at h
  refine ⟨W, e, s, R, En, ((Sat.bind GE.gt GN.gt h).noExc (Wx' := Wx)).imp fun x H1 ⟨W1, s1, d1, g1, h1⟩ => ?_⟩
  obtain ⟨n, e1, h1⟩ := h1.onLoc
  subst e1
  refine ⟨W1, e, s1, g1.st, En.pres g1.pres, ((Sat.bind GE.gt GN.gt h1).noExc (Wx' := Wx)).imp fun y H2 ⟨W2, s2, d2, g2, h2⟩ => ?_⟩
  cases d2 with
  | int kk =>
    simp only [setC] at h2
    split at h2
    · rename_i xs q
      split at h2
      · rename_i ys q2
        rcases putC_exc (n := n) (c := .lst ys) (s := s2) with ⟨s3, q3⟩ | q3
        · rw [q3] at h2
          refine ⟨W2, s2, n, kk, d, xs, ys, s3, (), g2.st, Rep.pres g2.pres g1.rep, g2.rep, Rep.pres (g1.pres.trans g2.pres) rv, q, q2, q3, fun H' c => ?_⟩
          exact h2 W2 H' σ ⟨c.pres, c.st, (En.pres (g1.pres.trans g2.pres)).pres c.pres, rfl, fun _ _ => rfl⟩
        · rw [q3] at h2; exact h2.elim
      · exact h2.elim
    · exact h2.elim
  | _ => exact h2.elim
theorem gs_nil : PGs X [] (tGs C X.K Wx ea .nil) := by
  refine ⟨fun pins s σ H vs us Q I r h => pgs_nil.run pins s σ H vs us Q I r ?_⟩
  obtain ⟨W, e, st, ds, R, En, rv, h⟩ := h
  cases ds with
  | nil =>
    simp only [Reps] at rv
    exact ⟨rv, h W H σ ⟨Pres.refl, R, En, rfl, fun _ _ => rfl⟩⟩
  | cons d ds => exact h.elim
theorem assign_cons {x : Expr} {xs : List Expr} {env : Env} (h : noStar x = true) : assignEach (x :: xs) env = (false, assign x env) :: assignEach xs env := by
  cases x <;> first | rfl | cases h
theorem gs_cons {t : Tg} {r : Tgs} {x : Expr} {rest : List Expr} (hs : noStar x = true) (h1 : PG X x (tG C X.K Wx ea t)) (h2 : PGs X rest (tGs C X.K Wx ea r)) : PGs X (x :: rest) (tGs C X.K Wx ea (.cons t r)) := by
  refine ⟨fun pins s σ H vs us Q I rr h => (pgs_cons h1 h2 (by rw [assign_cons hs]; rfl)).run pins s σ H vs us Q I rr ?_⟩
  obtain ⟨W, e, st, ds, R, En, rv, h⟩ := h
  cases ds with
  | nil => exact h.elim
  | cons d ds =>
    simp only [Reps] at rv
    obtain ⟨v, vr, e1, r1, r2⟩ := rv
    refine ⟨v, vr, e1, W, e, st, d, R, En, r1, ?_⟩
    simp only [evTs] at h
    refine (Sat.bind (G1 := GN X.K σ (tgSl t)) GN.gt GN.gt h).imp fun σ1 H1 ⟨W1, s1, e1, g, h1⟩ => ?_
    refine ⟨W1, e1, s1, ds, g.2.1, g.2.2.1, Reps.pres g.1 r2, ?_⟩
    cases q : evTs C r ds e1 s1 with
    | bad => rw [q] at h1; exact h1.elim
    | exc _ _ _ => exact absurd q (evTs_no r ds e1 s1)
    | ok e2 s2 =>
      rw [q] at h1
      intro W' H' σ2 g2
      refine h1 W' H' σ2 ⟨g2.1, g2.2.1, g2.2.2.1, g2.2.2.2.1.trans g.2.2.2.1, fun j hj => ?_⟩
      simp only [tgsSl, Bool.or_eq_false_iff] at hj
      rw [g2.2.2.2.2 j hj.2, g.2.2.2.2 j hj.1]
theorem assign_len : ∀ {t : Tgs} {xs : List Expr} {env : Env}, chkTs G S t xs = true → (assignEach xs env).length = xs.length ∧ (assignEach xs env).findIdx? (·.1) = none
  | .nil, xs, env, h => by
    simp only [chkTs, List.isEmpty_iff] at h
    subst h
    exact ⟨rfl, rfl⟩
  | .cons t r, xs, env, h => by
    cases xs with
    | nil => simp [chkTs] at h
    | cons x rest =>
      simp only [chkTs, Bool.and_eq_true] at h
      obtain ⟨e1, e2⟩ := assign_len (env := env) h.2
      rw [assign_cons h.1.1]
      refine ⟨by rw [List.length_cons, List.length_cons, e1], ?_⟩
      rw [List.findIdx?_cons]
      simp [e2]
theorem g_tp {ts : Tgs} {xs : List Expr} {n : Nat} {pos : Pos} (hc : X.calm = true) (hx : chkTs G S ts xs = true) (h : PGs X xs (tGs C X.K Wx ea ts)) : PG X (.Tuple xs n pos) (tG C X.K Wx ea (.tp ts)) := by
  obtain ⟨hl, hf⟩ := assign_len (env := X.env) hx
  refine ⟨fun pins s σ H v u Q I r w => ?_⟩
  obtain ⟨W, e, st, d, R, En, rv, w⟩ := w
  simp only [evT] at w
  have fin : ∀ {ds : List D} {vs : List V}, Reps X.K W H ds vs → Sat X.K Wx ea σ (GN X.K σ (tgSl (.tp ts))) W H (evTs C ts ds e st) Q → vs.length = xs.length ∧ tGs C X.K Wx ea ts vs σ H Q := fun {ds vs} r w => by
    cases q : evTs C ts ds e st with
    | bad => rw [q] at w; exact w.elim
    | exc _ _ _ => exact absurd q (evTs_no ts ds e st)
    | ok e2 s2 =>
      refine ⟨by rw [← r.length]; exact evTs_len hx q, W, e, st, ds, R, En, r, ?_⟩
      exact w
  split at w
  · rename_i ds q
    obtain ⟨p, vs, e1, t, r1⟩ := rd_tup R rv q
    obtain ⟨l1, w1⟩ := fin r1 w
    exact (pg_tup hc h hl hf).run pins s σ H v u Q I r ⟨p, vs, e1, t, l1, w1⟩
  · rename_i ds q
    obtain ⟨p, vs, e1, t, r1⟩ := rd_lst R rv q
    obtain ⟨l1, w1⟩ := fin r1 w
    exact (pg_lst hc h hl hf).run pins s σ H v u Q I r ⟨p, vs, e1, t, l1, w1⟩
  · exact w.elim
end
end Pv
end
section
set_option maxRecDepth 100000
set_option maxHeartbeats 4000000
namespace Pv
open PySem PySem.Spec PyProof.Rows L2
section
variable {K : PySem.W.Frag} {W W' W1 W2 : Wd} {H H' H1 H2 : Hp} {s s' : Sto} {p : Addr}
/-- what was known ahead of a list that nothing names -/
theorem keeps_new {b : Nat} (q : Pres W1 H1 W' H') (h : H1 p = none) : Keeps K W1 H1 (W'.avo p) H' b :=
  ⟨fun _ _ => SqT.pres q, fun a xs z => by
    rcases z with z | ⟨o, z⟩ | z
    · have hne : a ≠ p := ne_of_none z.1 h
      rcases LstAt.pres (K := K) q (.inl z) with ⟨z1, z2, z3⟩ | z1 | z1
      · refine .inl ⟨z1, z2, fun hin => ?_⟩
        rcases List.mem_cons.mp hin with e | e
        · exact hne e
        · exact z3 e
      · exact .inr (.inl z1)
      · exact .inr (.inr z1)
    · exact .inr (.inl ⟨o, q.keep _ _ z (fun m => m.elim) (fun _ z => nomatch z)⟩)
    · exact .inr (.inr z), fun n a _ z => show W'.rho[n]? = some a from ext_get q z⟩
theorem RelEn.by {b : Nat} {e : En} {σ : L2.St} (h : RelEn K W H e σ) (hb : b = W.rho.length) (k : Keeps K W H W' H' b) : RelEn K W' H' e σ :=
  ⟨h.1, fun i d q => let ⟨v, a, r⟩ := h.2 i d q; ⟨v, a, Rep.by k d (by rw [hb]; exact rep_below d r) r⟩⟩
theorem RelEn.wipe {e : En} {σ : L2.St} (h : RelEn K W H e σ) : ∀ own : List (Str × Nat), RelEn K W H (wipeE e own) (L2.wipe σ (own.map (·.2)))
  | [] => h
  | v :: vs => by
    have ih := h.wipe vs
    simp only [wipeE, List.map_cons, L2.wipe]
    refine ⟨by rw [List.length_set, List.length_set]; exact ih.1, fun j d q => ?_⟩
    by_cases hj : v.2 = j
    · subst hj
      have hi : v.2 < (wipeE e vs).length := by
        have := (List.getElem?_eq_some_iff.mp q).1
        rwa [List.length_set] at this
      rw [List.getElem?_set_self hi] at q
      cases q
    · rw [List.getElem?_set_ne hj] at q
      obtain ⟨w, e1, r1⟩ := ih.2 j d q
      exact ⟨w, by rw [List.getElem?_set_ne hj]; exact e1, r1⟩
/-- the list that nothing names changes -/
theorem avo_upd {b : Nat} {vs ws : List V} (h : H p = some (.lst vs)) : Keeps K (W.avo p) H (W.avo p) (upd H p (.lst ws)) b := by
  have tq : ∀ a o, (∀ zs, o ≠ .lst zs) → H a = some o → upd H p (.lst ws) a = some o := fun a o hn z => by
    have : a ≠ p := fun e => by subst e; rw [h] at z; cases z; exact hn _ rfl
    rw [upd_ne this]; exact z
  refine ⟨fun a xs z => ?_, fun a xs z => ?_, fun _ _ _ z => z⟩
  · rcases z with (z | ⟨o, z⟩) | z
    · exact .inl (.inl (tq a _ (fun _ e => nomatch e) z))
    · exact .inl (.inr ⟨o, tq a _ (fun _ e => nomatch e) z⟩)
    · exact .inr z
  · rcases z with ⟨z1, z2, z3⟩ | ⟨o, z⟩ | z
    · have : a ≠ p := fun e => z3 (by rw [e]; exact List.mem_cons_self)
      exact .inl ⟨by rw [upd_ne this]; exact z1, z2, z3⟩
    · exact .inr (.inl ⟨o, tq a _ (fun _ e => nomatch e) z⟩)
    · exact .inr (.inr z)
theorem RelSt.upd_avo {vs ws : List V} (R : RelSt K (W.avo p) s H) (h : H p = some (.lst vs)) : RelSt K (W.avo p) s (upd H p (.lst ws)) := by
  have hp := R.avd p List.mem_cons_self
  refine ⟨R.len, R.nd, fun a q => ⟨?_, (R.avd a q).2⟩, fun n a q => ?_⟩
  · by_cases e : a = p
    · subst e; rw [upd_same]; simp
    · rw [upd_ne e]; exact (R.avd a q).1
  · obtain ⟨ds, vs', e1, e2, e3, e4⟩ := R.cell n a q
    have : a ≠ p := fun e => hp.2 (by rw [← e]; exact List.mem_of_getElem? q)
    exact ⟨ds, vs', e1, by rw [upd_ne this]; exact e2, Reps.by (avo_upd h) ds (reps_below ds e3) e3, e4⟩
theorem Pres.upd_none {ws : List V} (q : Pres W1 H1 W' H') (h : H1 p = none) : Pres W1 H1 W' (upd H' p (.lst ws)) := by
  refine ⟨q.av, q.ext, fun a o e m t => ?_, fun a e => ?_⟩
  · rw [upd_ne (ne_of_none e h)]; exact q.keep a o e m t
  · by_cases z : a = p
    · subst z; rw [upd_same]; simp
    · rw [upd_ne z]; exact q.dom a e
end
section
variable {G : GC} {S : SX} {C : Cl} {Wx : WX} {ea : Nat → Addr} {k : Nat} {X : Cx}
mutual
theorem tgIn_sl {ix : List Nat} : ∀ {t : Tg} {j : Nat}, tgIn ix t = true → j ∉ ix → tgSl t j = false
  | .nm i, j, h, hj => by
    simp only [tgIn, List.contains_iff_mem] at h
    simp only [tgSl, beq_eq_false_iff_ne]
    exact fun e => hj (by rw [← e]; exact h)
  | .tp ts, j, h, hj => by simp only [tgIn] at h; simp only [tgSl]; exact tgsIn_sl h hj
  | .sub _ _, j, h, hj => by simp [tgIn] at h
theorem tgsIn_sl {ix : List Nat} : ∀ {t : Tgs} {j : Nat}, tgsIn ix t = true → j ∉ ix → tgsSl t j = false
  | .nil, j, h, hj => rfl
  | .cons t r, j, h, hj => by
    simp only [tgsIn, Bool.and_eq_true] at h
    simp only [tgsSl, Bool.or_eq_false_iff]
    exact ⟨tgIn_sl h.1 hj, tgsIn_sl h.2 hj⟩
end
theorem wipe_in {σ : L2.St} {i : Nat} : ∀ {vs : List Nat}, i ∈ vs → i < σ.length → (L2.wipe σ vs)[i]? = some none
  | [], h, _ => by simp at h
  | v :: vs, h, hi => by
    unfold L2.wipe
    by_cases e : v = i
    · subst e
      rw [List.getElem?_set_self (by rw [wipe_length]; exact hi)]
    · rw [List.getElem?_set_ne e]
      exact wipe_in (by rcases List.mem_cons.mp h with z | z; exact absurd z.symm e; exact z) hi
/-- stores into the block's own names alone: wiped, the slots are as before -/
theorem wipe_eq {σ σ2 : L2.St} {vs : List Nat} (hl : σ2.length = (L2.wipe σ vs).length) (h : ∀ j, j ∉ vs → σ2[j]? = (L2.wipe σ vs)[j]?) : L2.wipe σ2 vs = L2.wipe σ vs := by
  rw [wipe_length] at hl
  refine List.ext_getElem? fun j => ?_
  by_cases hj : j ∈ vs
  · by_cases hlt : j < σ.length
    · rw [wipe_in hj hlt, wipe_in hj (by omega)]
    · rw [List.getElem?_eq_none (by rw [wipe_length]; omega), List.getElem?_eq_none (by rw [wipe_length]; omega)]
  · rw [wipe_out hj, h j hj, wipe_out hj]
theorem t_comp {own : List (Str × Nat)} {tg : Tg} {it : CI} {ifs : CEs} {elt : CE} {fr : Bool} {σ : L2.St} {H : Hp} {Q : VK} (ht : tgIn (own.map (·.2)) tg = true)
    (h : tE C X.K Wx ea fr (.comp own tg it ifs elt) σ H Q) : tLc (tI C X.K Wx ea it) (tG C X.K (fun _ _ _ _ => False) ea tg) (tF C X.K (fun _ _ _ _ => False) ea ifs) (tE C X.K (fun _ _ _ _ => False) ea false elt) (own.map (·.2)) σ H Q := by
  obtain ⟨W, e, s, R, En, h⟩ := h
  simp only [evE] at h
  refine ⟨W, e, s, R, En, (Sat.bind GI.gt GE.gt h).imp fun J H1 ⟨W1, s1, w, g1, h1⟩ => ?_⟩
  obtain ⟨ds, gd⟩ := w
  obtain ⟨p1, R1, Sq, wd, sq⟩ := g1
  have En1 := En.pres p1
  simp only at h1
  generalize hb : (fun (d : D) (s : Sto) => (evT C tg d (wipeE e own) s).bind fun e1 s => (evIf C ifs e1 s).bind fun k s =>
      if k = true then (evE C elt e1 s).bind fun y s => .ok (some y) s else .ok none s) = body at h1
  have hbd : ∀ (d : Pv.D) (s : Sto), body d s = (evT C tg d (wipeE e own) s).bind fun e1 s => (evIf C ifs e1 s).bind fun k s =>
      if k = true then (evE C elt e1 s).bind fun y s => .ok (some y) s else .ok none s := fun d s => by rw [← hb]
  clear hb
  intro D hD
  cases ql : loopC body gd ds s1 with
  | bad => rw [ql] at h1; exact h1.elim
  | exc _ _ _ => rw [ql] at h1; exact h1.elim
  | ok ys sf =>
    rw [ql] at h1
    simp only [noExc, Out.bind] at h1
    split at h1
    case isFalse => exact h1.elim
    rename_i hbig
    refine ⟨fun i m H2 => m = ds.length - i ∧ i ≤ ds.length ∧ ∃ W2 s2 acc vs ys2, Pres W1 H1 W2 H2 ∧ RelSt X.K (W2.avo D) s2 H2 ∧ H2 D = some (.lst vs) ∧ Reps X.K (W2.avo D) H2 acc vs ∧ loopC body gd (ds.drop i) s2 = .ok ys2 sf ∧ acc ++ ys2 = ys,
      ⟨ds.length, by simp, Nat.zero_le _, W1, s1, [], [], ys, Pres.new hD, R1.avo hD, upd_same, rfl, ql, rfl⟩, ?_⟩
    rintro i m H2 ⟨rfl, hi, W2, s2, acc, vs, ys2, p2, R2, hv, rv, l2, ea2⟩
    have sq2 : Sq (W2.avo D) H2 := wd.mono (keeps_new p2 hD) sq
    by_cases hlt : i < ds.length
    · -- a turn
      right
      rw [List.drop_eq_getElem_cons hlt] at l2
      simp only [loopC] at l2
      split at l2
      case isFalse => cases l2
      rename_i hg
      refine ⟨wd.go i _ s2 H2 hlt R2 hg sq2, fun H3 => ∃ W3 s3 acc vs ys3, Pres W1 H1 W3 H3 ∧ RelSt X.K (W3.avo D) s3 H3 ∧ H3 D = some (.lst vs) ∧ Reps X.K (W3.avo D) H3 acc vs ∧ loopC body gd (ds.drop (i + 1)) s3 = .ok ys3 sf ∧ acc ++ ys3 = ys,
        fun H3 nx => ⟨ds.length - (i + 1), by omega, rfl, hlt, nx⟩, fun x H3 y3 => ?_⟩
      obtain ⟨d, ed, p3, R3, r3⟩ := wd.yld i _ s2 H2 x H3 hlt R2 hg sq2 y3
      rw [List.getElem?_eq_getElem hlt] at ed
      cases ed
      rw [hbd] at l2
      cases q1 : evT C tg ds[i] (wipeE e own) s2 with
      | bad => rw [q1] at l2; cases l2
      | exc _ _ _ => rw [q1] at l2; cases l2
      | ok e1 t1 =>
        rw [q1] at l2
        simp only [Out.bind] at l2
        have En3 : RelEn X.K (W2.avo D) H3 (wipeE e own) (L2.wipe σ (own.map (·.2))) := ((En1.by rfl (keeps_new p2 hD)).pres p3).wipe own
        refine ⟨W2.avo D, wipeE e own, s2, ds[i], R3, En3, r3, ?_⟩
        rw [q1]
        rintro W4 H4 σ4 ⟨p4, R4, En4, l4, n4⟩
        refine ⟨wipe_eq l4 fun j hj => n4 j (tgIn_sl ht hj), W4, e1, t1, R4, En4, ?_⟩
        cases q2 : evIf C ifs e1 t1 with
        | bad => rw [q2] at l2; cases l2
        | exc _ _ _ => rw [q2] at l2; cases l2
        | ok kk t2 =>
          rw [q2] at l2
          rintro W5 H5 b5 ⟨p5, R5, rfl⟩
          have p05 : Pres (W2.avo D) H2 W5 H5 := p3.trans (p4.trans p5)
          have kv : ∀ {W6 H6}, Pres (W2.avo D) H2 W6 H6 → H6 D = some (.lst vs) := fun {W6 H6} p => p.keep D _ hv (fun _ => (R2.avd D List.mem_cons_self).2) (fun _ z => nomatch z)
          cases kk with
          | false =>
            simp only [Bool.false_eq_true, if_false] at l2 ⊢
            obtain ⟨W5', rfl, p5'⟩ := p05.of_avo
            cases q3 : loopC body gd (ds.drop (i + 1)) t2 with
            | bad => rw [q3] at l2; cases l2
            | exc _ _ _ => rw [q3] at l2; cases l2
            | ok ys3 t3 =>
              rw [q3] at l2
              cases l2
              exact ⟨W5', t2, acc, vs, _, p2.trans p5', R5, kv p05, Reps.pres p05 rv, q3, ea2⟩
          | true =>
            simp only [if_true] at l2 ⊢
            refine ⟨W5, e1, t2, R5, En4.pres p5, ?_⟩
            cases q4 : evE C elt e1 t2 with
            | bad => rw [q4] at l2; cases l2
            | exc _ _ _ => rw [q4] at l2; cases l2
            | ok yd t4 =>
              rw [q4] at l2
              simp only [Out.bind] at l2
              rintro W6 H6 yv g6
              have p06 := p05.trans g6.pres
              obtain ⟨W6', rfl, p6'⟩ := p06.of_avo
              cases q3 : loopC body gd (ds.drop (i + 1)) t4 with
              | bad => rw [q3] at l2; cases l2
              | exc _ _ _ => rw [q3] at l2; cases l2
              | ok ys3 t3 =>
                rw [q3] at l2
                cases l2
                have rv6 := Reps.pres p06 rv
                have hv6 := kv p06
                have hl := rv6.length
                have hlen : acc.length < big := by
                  have : (acc ++ yd :: ys3).length ≤ big := by rw [ea2]; exact hbig
                  simp only [List.length_append, List.length_cons] at this
                  omega
                refine ⟨vs, hv6, by rw [← big_eq, ← hl]; exact hlen, W6', t4, acc ++ [yd], vs ++ [yv], ys3, (p2.trans p6').upd_none hD, g6.st.upd_avo hv6, upd_same, ?_, q3, by rw [← ea2]; simp⟩
                have ra := rv6.append (Reps.one g6.rep)
                exact Reps.by (avo_upd hv6) _ (reps_below _ ra) ra
    · -- the end
      left
      have ei : i = ds.length := by omega
      subst ei
      rw [List.drop_length] at l2
      simp only [loopC] at l2
      split at l2
      case isFalse => cases l2
      rename_i hg
      cases l2
      refine ⟨wd.stop _ sf H2 R2 hg sq2, ?_⟩
      rw [List.append_nil] at ea2
      subst ea2
      have ow : Own X.K W2 sf H2 D acc vs := ⟨hv, fun z => R1.not_av hD (by rw [← p2.av]; exact z), R2, rv⟩
      exact h1 W2 H2 (.ref D) ⟨p2, R2.unavo, ow.rep, fun _ ds' e => by cases e; exact ⟨D, vs, rfl, hD, ow⟩⟩
theorem chkI_set {it : CI} {x : Expr} (h : chkI G S it x = true) : noSet x = true := by
  cases it with
  | of a => simp only [chkI, Bool.and_eq_true] at h; exact h.1
  | _ =>
    cases x with
    | Set _ _ _ => simp [chkI] at h
    | _ => rfl
theorem noSet_fold {x : Expr} {env : Env} (h : noSet x = true) : ∀ v, foldedSetIterable x env v = pure v := by
  intro v
  cases x <;> first | rfl | cases h
end
end Pv
end
section
set_option maxRecDepth 100000
set_option maxHeartbeats 4000000
namespace Pv
open PySem PySem.Spec PyProof.Rows L2
section
variable {G : GC} {C : Cl} {ea : Nat → Addr} {k : Nat}
def PEs (C : Cl) (Wx : WX) (ea : Nat → Addr) (X : Cx) : CEs → List Expr → Prop
  | .nil, [] => True
  | .cons a r, x :: rest => PE X x (tE C X.K Wx ea false a) ∧ noStar x = true ∧ PEs C Wx ea X r rest
  | _, _ => False
def SE (G : GC) (C : Cl) (ea : Nat → Addr) (k : Nat) (e : CE) : Prop := ∀ (S : SX) (Wx : WX) (X : Cx) (x : Expr), Ctx G S C Wx ea k X → chkE G S e x = true →
  (∀ fr : Bool, (fr = true → fresh G e = true) → PE X x (tE C X.K Wx ea fr e)) ∧ (tst e = true → PT X x (tT C X.K Wx ea e)) ∧ (tst e = true → ∀ op vals p, x = .BoolOp op vals p → PW X x (tT C X.K Wx ea e))
def SEs (G : GC) (C : Cl) (ea : Nat → Addr) (k : Nat) (es : CEs) : Prop := ∀ (S : SX) (Wx : WX) (X : Cx) (xs : List Expr), Ctx G S C Wx ea k X → chkEs G S es xs = true → PA X xs (tA C X.K Wx ea es) ∧ PEs C Wx ea X es xs
def SF (G : GC) (C : Cl) (ea : Nat → Addr) (k : Nat) (es : CEs) : Prop := ∀ (S : SX) (Wx : WX) (X : Cx) (xs : List Expr), Ctx G S C Wx ea k X → chkF G S es xs = true → PTs X xs (tF C X.K Wx ea es)
def isTup : Expr → Bool
  | .Tuple _ _ _ => true
  | _ => false
def wantTup : CI → Bool
  | .zip _ _ | .enum _ => true
  | _ => false
def SI (G : GC) (C : Cl) (ea : Nat → Addr) (k : Nat) (it : CI) : Prop := ∀ (S : SX) (Wx : WX) (X : Cx) (x tg : Expr), Ctx G S C Wx ea k X → chkI G S it x = true → (wantTup it = true → isTup tg = true) → PI X tg x (tI C X.K Wx ea it)
def ST (G : GC) (C : Cl) (ea : Nat → Addr) (k : Nat) (t : Tg) : Prop := ∀ (S : SX) (Wx Wx' : WX) (X : Cx) (x : Expr), Ctx G S C Wx ea k X → chkT G S t x = true → PG X x (tG C X.K Wx' ea t)
def STs (G : GC) (C : Cl) (ea : Nat → Addr) (k : Nat) (t : Tgs) : Prop := ∀ (S : SX) (Wx Wx' : WX) (X : Cx) (xs : List Expr), Ctx G S C Wx ea k X → chkTs G S t xs = true → PGs X xs (tGs C X.K Wx' ea t)
theorem pt_E {Wx : WX} {X : Cx} {x : Expr} {e : CE} (h : PE X x (tE C X.K Wx ea false e)) (he : ∀ whole, isTrue x X.env whole = (do let v ← whole; standAt x.pos; holding [v] (truthy v))) : PT X x (tT C X.K Wx ea e) :=
  PT.by (pt_val h he) fun σ H Q h => t_test h
/-- where a value is never new -/
theorem no_fr {e : CE} {fr : Bool} (h : fr = true → fresh G e = true) (n : fresh G e = false) : fr = false := by
  cases fr with
  | false => rfl
  | true => rw [h rfl] at n; cases n
theorem se_var {i : Nat} : SE G C ea k (.var i) := by
  intro S Wx X x c h
  cases x with
  | Name y p =>
    simp only [chkE, Bool.and_eq_true, decide_eq_true_eq, Bool.not_eq_true'] at h
    have P := e_var (pos := p) c h.1.1 h.1.2 h.2
    refine ⟨fun fr hf => ?_, fun _ => pt_E P (fun _ => rfl), fun _ _ _ _ e => nomatch e⟩
    rw [no_fr hf rfl]; exact P
  | _ => simp [chkE] at h
theorem se_lit {d : D} : SE G C ea k (.lit d) := by
  intro S Wx X x c h
  cases x with
  | Constant kk n p =>
    simp only [chkE] at h
    have P := e_lit (C := C) (Wx := Wx) (ea := ea) (X := X) (n := n) (pos := p) h
    refine ⟨fun fr hf => ?_, fun _ => pt_E P (fun _ => rfl), fun _ _ _ _ e => nomatch e⟩
    rw [no_fr hf rfl]; exact P
  | _ => simp [chkE] at h
theorem se_glo {y : Str} {d : D} : SE G C ea k (.glo y d) := by
  intro S Wx X x c h
  cases x with
  | Name y p =>
    simp only [chkE, Bool.and_eq_true, decide_eq_true_eq] at h
    obtain ⟨⟨e1, h1⟩, h2⟩ := h
    subst e1
    have P := e_glo (pos := p) c h1 h2
    refine ⟨fun fr hf => ?_, fun _ => pt_E P (fun _ => rfl), fun _ _ _ _ e => nomatch e⟩
    rw [no_fr hf rfl]; exact P
  | _ => simp [chkE] at h
theorem se_bin {o : Op} {a b : CE} (ha : SE G C ea k a) (hb : SE G C ea k b) : SE G C ea k (.bin o a b) := by
  intro S Wx X x c h
  cases x with
  | BinOp l op r p =>
    simp only [chkE, Bool.and_eq_true] at h
    exact ⟨fun fr hf => e_bin h.1.1 ((ha S Wx X l c h.1.2).1 false (fun z => nomatch z)) ((hb S Wx X r c h.2).1 false (fun z => nomatch z)), (fun z => nomatch z), (fun z => nomatch z)⟩
  | _ => simp [chkE] at h
theorem se_neg {a : CE} (ha : SE G C ea k a) : SE G C ea k (.neg a) := by
  intro S Wx X x c h
  cases x with
  | UnaryOp op l p =>
    cases op with
    | USub =>
      simp only [chkE] at h
      refine ⟨fun fr hf => ?_, (fun z => nomatch z), (fun z => nomatch z)⟩
      rw [no_fr hf rfl]
      exact e_neg ((ha S Wx X l c h).1 false (fun z => nomatch z))
    | _ => simp [chkE] at h
  | _ => simp [chkE] at h
theorem se_cmp {o : Cp} {a b : CE} (ha : SE G C ea k a) (hb : SE G C ea k b) : SE G C ea k (.cmp o a b) := by
  intro S Wx X x c h
  unfold chkE at h
  split at h
  · rename_i l op r p
    simp only [Bool.and_eq_true, Bool.not_eq_true'] at h
    have P := e_cmp (pos := p) c h.1.1.1 h.1.1.2 ((ha S Wx X l c h.1.2).1 false (fun z => nomatch z)) ((hb S Wx X r c h.2).1 false (fun z => nomatch z))
    refine ⟨fun fr hf => ?_, fun _ => P.2, fun _ _ _ _ e => nomatch e⟩
    rw [no_fr hf rfl]; exact P.1
  · cases h
theorem se_chn {o q : Cp} {a b d : CE} (ha : SE G C ea k a) (hb : SE G C ea k b) (hd : SE G C ea k d) : SE G C ea k (.chn o q a b d) := by
  intro S Wx X x c h
  unfold chkE at h
  split at h
  · rename_i l op op2 r t p
    simp only [Bool.and_eq_true, Bool.not_eq_true'] at h
    obtain ⟨⟨⟨⟨⟨h1, h2⟩, h3⟩, h4⟩, h5⟩, h6⟩ := h
    have P := e_chn (pos := p) c h1 h2 h3 ((ha S Wx X l c h4).1 false (fun z => nomatch z)) ((hb S Wx X r c h5).1 false (fun z => nomatch z)) ((hd S Wx X t c h6).1 false (fun z => nomatch z))
    refine ⟨fun fr hf => ?_, fun _ => P.2, fun _ _ _ _ e => nomatch e⟩
    rw [no_fr hf rfl]; exact P.1
  · cases h
theorem se_and {a b : CE} (ha : SE G C ea k a) (hb : SE G C ea k b) : SE G C ea k (.and a b) := by
  intro S Wx X x c h
  unfold chkE at h
  split at h
  · rename_i x0 y rest p
    simp only [Bool.and_eq_true] at h
    have A := ha S Wx X x0 c h.1
    have tl : PE X (.BoolOp .And (y :: rest) p) (tE C X.K Wx ea false b) ∧ (tst b = true → PW X (.BoolOp .And (y :: rest) p) (tT C X.K Wx ea b)) := by
      cases rest with
      | nil =>
        have B := hb S Wx X y c h.2
        exact ⟨pe_one (B.1 false (fun z => nomatch z)), fun t => pw_and1 (B.2.1 t)⟩
      | cons z r =>
        have B := hb S Wx X _ c h.2
        exact ⟨B.1 false (fun z => nomatch z), fun t => B.2.2 t _ _ _ rfl⟩
    have W : tst (.and a b) = true → PW X (.BoolOp .And (x0 :: y :: rest) p) (tT C X.K Wx ea (.and a b)) := fun t => by
      simp only [tst, Bool.and_eq_true] at t
      exact PW.by (pw_and (A.2.1 t.1) (tl.2 t.2)) fun σ H Q h => t_andT h
    refine ⟨fun fr hf => ?_, fun t => (W t).pt, fun t _ _ _ e => W t⟩
    rw [no_fr hf rfl]
    exact PE.by (pe_and (A.1 false (fun z => nomatch z)) tl.1) fun σ H Q h => t_and h
  · cases h
theorem se_or {a b : CE} (ha : SE G C ea k a) (hb : SE G C ea k b) : SE G C ea k (.or a b) := by
  intro S Wx X x c h
  unfold chkE at h
  split at h
  · rename_i x0 y rest p
    simp only [Bool.and_eq_true] at h
    have A := ha S Wx X x0 c h.1
    have tl : PE X (.BoolOp .Or (y :: rest) p) (tE C X.K Wx ea false b) ∧ (tst b = true → PW X (.BoolOp .Or (y :: rest) p) (tT C X.K Wx ea b)) := by
      cases rest with
      | nil =>
        have B := hb S Wx X y c h.2
        exact ⟨pe_one (B.1 false (fun z => nomatch z)), fun t => pw_or1 (B.2.1 t)⟩
      | cons z r =>
        have B := hb S Wx X _ c h.2
        exact ⟨B.1 false (fun z => nomatch z), fun t => B.2.2 t _ _ _ rfl⟩
    have W : tst (.or a b) = true → PW X (.BoolOp .Or (x0 :: y :: rest) p) (tT C X.K Wx ea (.or a b)) := fun t => by
      simp only [tst, Bool.and_eq_true] at t
      exact PW.by (pw_or (A.2.1 t.1) (tl.2 t.2)) fun σ H Q h => t_orT h
    refine ⟨fun fr hf => ?_, fun t => (W t).pt, fun t _ _ _ e => W t⟩
    rw [no_fr hf rfl]
    exact PE.by (pe_or (A.1 false (fun z => nomatch z)) tl.1) fun σ H Q h => t_or h
  · cases h
theorem se_not {a : CE} (ha : SE G C ea k a) : SE G C ea k (.not a) := by
  intro S Wx X x c h
  cases x with
  | UnaryOp op l p =>
    cases op with
    | Not =>
      simp only [chkE] at h
      have A := ha S Wx X l c h
      refine ⟨fun fr hf => ?_, fun t => ?_, fun _ _ _ _ e => nomatch e⟩
      · rw [no_fr hf rfl]
        exact e_not (A.1 false (fun z => nomatch z))
      · simp only [tst] at t
        exact PT.by (pt_not (A.2.1 t)) fun σ H Q h => t_notT h
    | _ => simp [chkE] at h
  | _ => simp [chkE] at h
theorem se_ite {t a b : CE} (ht : SE G C ea k t) (ha : SE G C ea k a) (hb : SE G C ea k b) : SE G C ea k (.ite t a b) := by
  intro S Wx X x c h
  cases x with
  | IfExp u l r p =>
    simp only [chkE, Bool.and_eq_true] at h
    obtain ⟨⟨⟨h1, h2⟩, h3⟩, h4⟩ := h
    refine ⟨fun fr hf => ?_, (fun z => nomatch z), (fun z => nomatch z)⟩
    rw [no_fr hf rfl]
    exact PE.by (pe_ifExp ((ht S Wx X u c h2).2.1 h1) ((ha S Wx X l c h3).1 false (fun z => nomatch z)) ((hb S Wx X r c h4).1 false (fun z => nomatch z))) fun σ H Q h => t_ite h
  | _ => simp [chkE] at h
theorem se_tup {es : CEs} (hs : SEs G C ea k es) : SE G C ea k (.tup es) := by
  intro S Wx X x c h
  cases x with
  | Tuple xs n p =>
    simp only [chkE, Bool.and_eq_true, decide_eq_true_eq] at h
    refine ⟨fun fr hf => ?_, (fun z => nomatch z), (fun z => nomatch z)⟩
    rw [no_fr hf rfl]
    exact e_tup h.1 h.2 (hs S Wx X xs c h.1).1
  | _ => simp [chkE] at h
theorem se_lst {es : CEs} (hs : SEs G C ea k es) : SE G C ea k (.lst es) := by
  intro S Wx X x c h
  cases x with
  | List xs p =>
    simp only [chkE, Bool.and_eq_true, decide_eq_true_eq] at h
    exact ⟨fun fr hf => e_lst h.1 h.2 (hs S Wx X xs c h.1).1, (fun z => nomatch z), (fun z => nomatch z)⟩
  | _ => simp [chkE] at h
theorem se_idx {a i : CE} (ha : SE G C ea k a) (hi : SE G C ea k i) : SE G C ea k (.idx a i) := by
  intro S Wx X x c h
  cases x with
  | Subscript l r p =>
    simp only [chkE, Bool.and_eq_true] at h
    have P := e_idx (pos := p) h.1.1 ((ha S Wx X l c h.1.2).1 false (fun z => nomatch z)) ((hi S Wx X r c h.2).1 false (fun z => nomatch z))
    refine ⟨fun fr hf => ?_, fun _ => pt_E P (fun _ => rfl), fun _ _ _ _ e => nomatch e⟩
    rw [no_fr hf rfl]; exact P
  | _ => simp [chkE] at h
theorem part_of {S : SX} {Wx : WX} {X : Cx} {cs : CEs} {o : Option Expr} (c : Ctx G S C Wx ea k X) (hs : SEs G C ea k cs) (h : (match o with
        | none => chkEs G S cs []
        | some x => chkEs G S cs [x]) = true) : (o = none ∧ cs = .nil) ∨ (∃ x c, o = some x ∧ cs = .cons c .nil ∧ PE X x (tE C X.K Wx ea false c)) := by
  cases o with
  | none =>
    cases cs with
    | nil => exact .inl ⟨rfl, rfl⟩
    | cons a r => simp [chkEs] at h
  | some x =>
    have P := (hs S Wx X [x] c h).2
    cases cs with
    | nil => simp [chkEs] at h
    | cons a r =>
      cases r with
      | nil => exact .inr ⟨x, a, rfl, rfl, P.1⟩
      | cons b r => simp [chkEs] at h
theorem se_slc {a : CE} {lo hi : CEs} (ha : SE G C ea k a) (hl : SEs G C ea k lo) (hh : SEs G C ea k hi) : SE G C ea k (.slc a lo hi) := by
  intro S Wx X x c h
  unfold chkE at h
  split at h
  · rename_i l lo' hi' p2 p
    simp only [Bool.and_eq_true] at h
    exact ⟨fun fr hf => e_slc ((ha S Wx X l c h.1.1).1 false (fun z => nomatch z)) (part_of c hl h.1.2) (part_of c hh h.2), (fun z => nomatch z), (fun z => nomatch z)⟩
  · cases h
theorem se_slr {a : CE} (ha : SE G C ea k a) : SE G C ea k (.slr a) := by
  intro S Wx X x c h
  unfold chkE at h
  split at h
  · rename_i l i n p1 p2 p3 p
    simp only [Bool.and_eq_true, decide_eq_true_eq] at h
    obtain ⟨e1, h⟩ := h
    subst e1
    exact ⟨fun fr hf => e_slr ((ha S Wx X l c h).1 false (fun z => nomatch z)), (fun z => nomatch z), (fun z => nomatch z)⟩
  · cases h
theorem se_call {f : Nat} {es : CEs} (hs : SEs G C ea k es) : SE G C ea k (.call f es) := by
  intro S Wx X x c h
  unfold chkE at h
  split at h
  · rename_i y p xs p2
    simp only [Bool.and_eq_true, decide_eq_true_eq] at h
    have A := (hs S Wx X xs c h.2).1
    exact ⟨fun fr hf => e_call c h.1.1 h.1.2 h.2 hf A, fun _ => pt_E (e_call c h.1.1 h.1.2 h.2 (fun z => nomatch z) A) (fun _ => rfl), fun _ _ _ _ e => nomatch e⟩
  · cases h
theorem se_bi {b : BI} {es : CEs} (hs : SEs G C ea k es) : SE G C ea k (.bi b es) := by
  intro S Wx X x c h
  unfold chkE at h
  split at h
  · rename_i y p z zs p2
    simp only [Bool.and_eq_true, decide_eq_true_eq] at h
    have A := (hs S Wx X _ c h.2).1
    exact ⟨fun fr hf => e_bi c h.1.1.1 h.1.1.2 h.1.2 h.2 (fun z => by have := hf z; cases b <;> first | rfl | exact this) A, fun _ => pt_E (e_bi c h.1.1.1 h.1.1.2 h.1.2 h.2 (fun z => nomatch z) A) (fun _ => rfl), fun _ _ _ _ e => nomatch e⟩
  · cases h
theorem se_isi {a : CE} {t : Ty} (ha : SE G C ea k a) : SE G C ea k (.isi a t) := by
  intro S Wx X x c h
  unfold chkE at h
  split at h
  · rename_i y p z w p2 p3
    simp only [Bool.and_eq_true, decide_eq_true_eq] at h
    obtain ⟨⟨⟨⟨⟨⟨h1, h2⟩, h3⟩, h4⟩, h5⟩, h6⟩, h7⟩ := h
    have P := e_isi (p := p) (p2 := p2) (pos := p3) c h1 h2 h3 h4 (fun c e => by subst e; cases h5) h7 ((ha S Wx X z c h6).1 false (fun z => nomatch z))
    refine ⟨fun fr hf => ?_, fun _ => pt_E P (fun _ => rfl), fun _ _ _ _ e => nomatch e⟩
    rw [no_fr hf rfl]; exact P
  · cases h
theorem se_thaw {a : CE} (ha : SE G C ea k a) : SE G C ea k (.thaw a) := by
  intro S Wx X x c h
  simp only [chkE, Bool.and_eq_true] at h
  refine ⟨fun fr hf => ?_, (fun z => nomatch z), (fun z => nomatch z)⟩
  rw [no_fr hf rfl]
  exact e_thaw ((ha S Wx X x c h.2).1 true (fun _ => h.1))
theorem se_pop {o : CE} {es : CEs} (ho : SE G C ea k o) (hs : SEs G C ea k es) : SE G C ea k (.pop o es) := by
  intro S Wx X x c h
  unfold chkE at h
  split at h
  · rename_i l n ap xs cp
    simp only [Bool.and_eq_true, decide_eq_true_eq] at h
    obtain ⟨⟨⟨⟨⟨h1, h2⟩, h3⟩, h4⟩, h5⟩, h6⟩ := h
    subst h1
    have P := e_pop (apos := ap) (cpos := cp) h2 h3 h5 h6 ((ho S Wx X l c h4).1 false (fun z => nomatch z)) (hs S Wx X xs c h5).1
    refine ⟨fun fr hf => ?_, fun _ => pt_E P (fun _ => rfl), fun _ _ _ _ e => nomatch e⟩
    rw [no_fr hf rfl]; exact P
  · cases h
theorem se_comp {own : List (Str × Nat)} {tg : Tg} {it : CI} {ifs : CEs} {elt : CE} (ht : ST G C ea k tg) (hi : SI G C ea k it) (hf : SF G C ea k ifs) (he : SE G C ea k elt) : SE G C ea k (.comp own tg it ifs elt) := by
  intro S Wx X x c h
  unfold chkE at h
  split at h
  · rename_i el t i fs scope p
    simp only [Bool.and_eq_true] at h
    obtain ⟨⟨⟨⟨⟨⟨h1, h2⟩, h3⟩, h4⟩, h5⟩, h6⟩, h7⟩ := h
    have hb : BlkOk X.N X.env.scope scope own := by rw [c.N, c.sc]; exact blkOk_by h1
    refine ⟨fun fr _ => PE.by (pe_lc (wi := tI C X.K Wx ea it) (g := tG C X.K (fun _ _ _ _ => False) ea tg) (tt := tF C X.K (fun _ _ _ _ => False) ea ifs) (te := tE C X.K (fun _ _ _ _ => False) ea false elt) c.calm c.nd (hi S Wx X i t c h2 (fun w => ?_)) hb (fun s H CA cl fp => ?_) (fun s H CA cl fp => ?_) (fun s H CA cl fp => ?_) (noSet_fold (chkI_set h2))) fun σ H Q h => t_comp h4 h, (fun z => nomatch z), (fun z => nomatch z)⟩
    · revert h3
      cases it <;> first | (intro _; cases w; done) | (cases t <;> intro h3 <;> first | rfl | cases h3)
    · exact ht _ _ _ _ _ (c.blk s H CA cl fp) h5
    · exact hf _ _ _ _ (c.blk s H CA cl fp) h6
    · exact (he _ _ _ _ (c.blk s H CA cl fp) h7).1 false (fun z => nomatch z)
  · cases h
theorem ses_nil : SEs G C ea k .nil := by
  intro S Wx X xs c h
  simp only [chkEs, List.isEmpty_iff] at h
  subst h
  exact ⟨a_nil, trivial⟩
theorem ses_cons {a : CE} {r : CEs} (ha : SE G C ea k a) (hr : SEs G C ea k r) : SEs G C ea k (.cons a r) := by
  intro S Wx X xs c h
  cases xs with
  | nil => simp [chkEs] at h
  | cons x rest =>
    simp only [chkEs, Bool.and_eq_true] at h
    have A := (ha S Wx X x c h.1.2).1 false (fun z => nomatch z)
    have R := hr S Wx X rest c h.2
    exact ⟨a_cons h.1.1 A R.1, A, h.1.1, R.2⟩
theorem sf_nil : SF G C ea k .nil := by
  intro S Wx X xs c h
  simp only [chkF, List.isEmpty_iff] at h
  subst h
  refine ⟨fun pins s σ H Q I w => pts_nil.run pins s σ H Q I ?_⟩
  obtain ⟨W, e, st, R, En, w⟩ := w
  exact w W H true ⟨Pres.refl, R, rfl⟩
theorem sf_cons {a : CE} {r : CEs} (ha : SE G C ea k a) : SF G C ea k (.cons a r) := by
  intro S Wx X xs c h
  cases xs with
  | nil => simp [chkF] at h
  | cons x rest =>
    cases rest with
    | cons _ _ => simp [chkF] at h
    | nil =>
      cases r with
      | cons _ _ => simp [chkF] at h
      | nil =>
        simp only [chkF, Bool.and_eq_true] at h
        refine pts_one (PT.by ((ha S Wx X x c h.2).2.1 h.1) fun σ H Q w => ?_)
        obtain ⟨W, e, st, R, En, w⟩ := w
        simp only [evIf] at w
        refine ⟨W, e, st, R, En, ?_⟩
        cases q : evE C a e st with
        | bad => rw [q] at w; exact w.elim
        | exc _ _ _ => rw [q] at w; exact w
        | ok d s1 =>
          rw [q] at w
          simp only [Out.bind] at w ⊢
          cases d with
          | bl b =>
            cases b with
            | true => exact w
            | false => exact w
          | _ => exact w.elim
theorem si_of {a : CE} (ha : SE G C ea k a) : SI G C ea k (.of a) := by
  intro S Wx X x tg c h _
  simp only [chkI, Bool.and_eq_true] at h
  exact i_of ((ha S Wx X x c h.2).1 false (fun z => nomatch z))
theorem si_range {es : CEs} (hs : SEs G C ea k es) : SI G C ea k (.range es) := by
  intro S Wx X x tg c h _
  unfold chkI at h
  split at h
  · rename_i y p xs p2
    simp only [Bool.and_eq_true, decide_eq_true_eq] at h
    exact i_range c h.1.1.1 h.1.1.2 h.1.2 h.2 (hs S Wx X xs c h.1.2).1
  · cases h
theorem si_revr {es : CEs} (hs : SEs G C ea k es) : SI G C ea k (.revr es) := by
  intro S Wx X x tg c h _
  unfold chkI at h
  split at h
  · rename_i y p z p2 xs p3 p4
    simp only [Bool.and_eq_true, decide_eq_true_eq] at h
    obtain ⟨⟨⟨⟨⟨h1, h2⟩, h3⟩, h4⟩, h5⟩, h6⟩ := h
    have A := (hs S Wx X xs c h5).2
    match es, xs, h5, h6, A with
    | .nil, [], _, _, _ => exact ⟨fun pins s σ H R I w => by
        obtain ⟨W, e, st, R, En, w⟩ := w
        exact w.elim⟩
    | .cons a .nil, [u], _, _, A => exact i_revr1 c h1 h2 h3 h4 A.2.1 A.1
    | .cons a (.cons b .nil), [u, v], _, _, A => exact i_revr2 c h1 h2 h3 h4 A.2.1 A.2.2.2.1 A.1 A.2.2.1
    | _, _ :: _ :: _ :: _, _, h6, _ => simp at h6
    | .nil, _ :: _, _, _, A => exact A.elim
    | .cons _ _, [], _, _, A => exact A.elim
    | .cons _ .nil, [_, _], _, _, A => exact A.2.2.elim
    | .cons _ (.cons _ _), [_], _, _, A => exact A.2.2.elim
    | .cons _ (.cons _ (.cons _ _)), [_, _], _, _, A => exact A.2.2.2.2.elim
  · cases h
theorem tup_of {tg : Expr} (h : isTup tg = true) : ∃ xs n p, tg = .Tuple xs n p := by
  cases tg <;> first | exact ⟨_, _, _, rfl⟩ | cases h
theorem si_zip {a b : CE} (ha : SE G C ea k a) (hb : SE G C ea k b) : SI G C ea k (.zip a b) := by
  intro S Wx X x tg c h w
  obtain ⟨xs, n, p, rfl⟩ := tup_of (w rfl)
  unfold chkI at h
  split at h
  · rename_i y p y1 y2 p2
    simp only [Bool.and_eq_true, decide_eq_true_eq] at h
    obtain ⟨⟨⟨⟨⟨h1, h2⟩, h3⟩, h4⟩, h5⟩, h6⟩ := h
    exact i_zip c h1 h2 h5 h6 ((ha S Wx X _ c h3).1 false (fun z => nomatch z)) ((hb S Wx X _ c h4).1 false (fun z => nomatch z))
  · cases h
theorem si_enum {a : CE} (ha : SE G C ea k a) : SI G C ea k (.enum a) := by
  intro S Wx X x tg c h w
  obtain ⟨xs, n, p, rfl⟩ := tup_of (w rfl)
  unfold chkI at h
  split at h
  · rename_i y p y1 p2
    simp only [Bool.and_eq_true, decide_eq_true_eq] at h
    obtain ⟨⟨⟨h1, h2⟩, h3⟩, h4⟩ := h
    exact i_enum c h1 h2 h4 ((ha S Wx X _ c h3).1 false (fun z => nomatch z))
  · cases h
theorem si_rev {a : CE} (ha : SE G C ea k a) : SI G C ea k (.rev a) := by
  intro S Wx X x tg c h w
  unfold chkI at h
  split at h
  · rename_i y p y1 p2
    simp only [Bool.and_eq_true, decide_eq_true_eq] at h
    obtain ⟨⟨⟨h1, h2⟩, h3⟩, h4⟩ := h
    exact i_rev c h1 h2 h4 ((ha S Wx X _ c h3).1 false (fun z => nomatch z))
  · cases h
theorem st_nm {i : Nat} : ST G C ea k (.nm i) := by
  intro S Wx Wx' X x c h
  cases x with
  | Name y p =>
    simp only [chkT, Bool.and_eq_true, decide_eq_true_eq] at h
    exact g_nm c h.1 h.2
  | _ => simp [chkT] at h
theorem st_tp {ts : Tgs} (hs : STs G C ea k ts) : ST G C ea k (.tp ts) := by
  intro S Wx Wx' X x c h
  cases x with
  | Tuple xs n p =>
    simp only [chkT] at h
    exact g_tp c.calm h (hs S Wx Wx' X xs c h)
  | _ => simp [chkT] at h
theorem st_sub {o i : CE} (ho : SE G C ea k o) (hi : SE G C ea k i) : ST G C ea k (.sub o i) := by
  intro S Wx Wx' X x c h
  cases x with
  | Subscript l r p =>
    simp only [chkT, Bool.and_eq_true] at h
    exact g_sub h.1.1 ((ho S Wx X l c h.1.2).1 false (fun z => nomatch z)) ((hi S Wx X r c h.2).1 false (fun z => nomatch z))
  | _ => simp [chkT] at h
theorem sts_nil : STs G C ea k .nil := by
  intro S Wx Wx' X xs c h
  simp only [chkTs, List.isEmpty_iff] at h
  subst h
  exact gs_nil
theorem sts_cons {t : Tg} {r : Tgs} (ht : ST G C ea k t) (hr : STs G C ea k r) : STs G C ea k (.cons t r) := by
  intro S Wx Wx' X xs c h
  cases xs with
  | nil => simp [chkTs] at h
  | cons x rest =>
    simp only [chkTs, Bool.and_eq_true] at h
    exact gs_cons h.1.1 (ht S Wx Wx' X x c h.1.2) (hr S Wx Wx' X rest c h.2)
variable (G C ea k)
mutual
theorem sE : ∀ e : CE, SE G C ea k e
  | .var i => se_var
  | .lit d => se_lit
  | .glo x d => se_glo
  | .bin o a b => se_bin (sE a) (sE b)
  | .neg a => se_neg (sE a)
  | .cmp o a b => se_cmp (sE a) (sE b)
  | .chn o p a b c => se_chn (sE a) (sE b) (sE c)
  | .and a b => se_and (sE a) (sE b)
  | .or a b => se_or (sE a) (sE b)
  | .not a => se_not (sE a)
  | .ite c a b => se_ite (sE c) (sE a) (sE b)
  | .tup es => se_tup (sEs es)
  | .lst es => se_lst (sEs es)
  | .idx a i => se_idx (sE a) (sE i)
  | .slc a lo hi => se_slc (sE a) (sEs lo) (sEs hi)
  | .call f es => se_call (sEs es)
  | .bi b es => se_bi (sEs es)
  | .isi a t => se_isi (sE a)
  | .comp own tg it ifs elt => se_comp (sT tg) (sI it) (sFs ifs) (sE elt)
  | .thaw a => se_thaw (sE a)
  | .pop o es => se_pop (sE o) (sEs es)
  | .slr a => se_slr (sE a)
  | .thk => fun _ _ _ _ _ h => nomatch h
  | .callL f b => fun _ _ _ _ _ h => nomatch h
theorem sEs : ∀ es : CEs, SEs G C ea k es
  | .nil => ses_nil
  | .cons a r => ses_cons (sE a) (sEs r)
theorem sFs : ∀ es : CEs, SF G C ea k es
  | .nil => sf_nil
  | .cons a r => sf_cons (sE a)
theorem sI : ∀ it : CI, SI G C ea k it
  | .of e => si_of (sE e)
  | .range es => si_range (sEs es)
  | .zip a b => si_zip (sE a) (sE b)
  | .enum a => si_enum (sE a)
  | .rev a => si_rev (sE a)
  | .revr es => si_revr (sEs es)
theorem sT : ∀ t : Tg, ST G C ea k t
  | .nm i => st_nm
  | .tp ts => st_tp (sTs ts)
  | .sub o i => st_sub (sE o) (sE i)
theorem sTs : ∀ ts : Tgs, STs G C ea k ts
  | .nil => sts_nil
  | .cons t r => sts_cons (sT t) (sTs r)
end
end
end Pv
end
section
set_option maxRecDepth 100000
set_option maxHeartbeats 4000000
namespace Pv
open PySem PySem.Spec PyProof.Rows L2
/-! ### statements: the checker -/
def notComp : Expr → Bool
  | .ListComp _ _ _ _ | .SetComp _ _ _ _ | .DictComp _ _ _ _ _ => false
  | _ => true
def scFun (S : SX) : Bool := match S.sc.kind with
  | .function => true
  | _ => false
def loc1 (S : SX) (x : Str) : Bool := decide (S.sc.names.lookup x = some .local)
/-- one target, no exchange of stores -/
def plainAsg (S : SX) (t e : Expr) : Bool :=
  match t, e with
  | .Tuple ts _ _, .Tuple vs _ _ => vs.all (foldedForSure 8) || decide (ts.length ≠ 2 ∧ ts.length ≠ 3) || decide (vs.length ≠ ts.length) || ts.any (fun t => match t with
      | .Name x _ => !loc1 S x
      | _ => true)
  | .List _ _, _ => false
  | _, _ => true
/-- a, b = .. with plain locals on one line -/
def swapAsg (vs : List Expr) : Bool := !vs.all (foldedForSure 8) && !vs.all (constantsAlone 8) && vs.all noStar
def isCompE : CE → Option (List (Str × Nat) × Tg × CI × CEs × CE)
  | .comp own tg it ifs elt => some (own, tg, it, ifs, elt)
  | .thaw (.comp own tg it ifs elt) => some (own, tg, it, ifs, elt)
  | _ => none
def chkExp (G : GC) (S : SX) (a : CE) (s : Stmt) : Bool := match s with
  | .Expr e _ => notComp e && chkE G S a e
  | _ => false
def chkApp (G : GC) (S : SX) (o a : CE) (s : Stmt) : Bool := match s with
  | .Expr (.Call (.Attribute l n apos) [x] [] cpos) _ => decide (n = "append") && baseB l && (apos.endLine == cpos.line) && chkE G S o l && noStar x && chkE G S a x
  | _ => false
def chkExt (G : GC) (S : SX) (o a : CE) (s : Stmt) : Bool := match s with
  | .Expr (.Call (.Attribute l n apos) [x] [] cpos) _ => decide (n = "extend") && baseB l && (apos.endLine == cpos.line) && chkE G S o l && noStar x && fresh G a && chkE G S a x
  | _ => false
def chkAs1 (G : GC) (S : SX) (t : Tg) (a : CE) (tg e : Expr) : Bool := notComp e && noStar tg && plainAsg S tg e && chkT G S t tg && chkE G S a e
def chkLc (G : GC) (S : SX) (i : Nat) (a : CE) (tg e : Expr) : Bool := match tg, e with
  | .Name y py, .ListComp el [⟨u, it, fs, 0⟩] scope cp => scFun S && decide (S.N[i]? = some y) && loc1 S y && (py.line == cp.line) && !(scope.names.any fun (n, k) => n == y && (k == .local || k == .cell)) && chkE G S a (.ListComp el [⟨u, it, fs, 0⟩] scope cp) && (isCompE a).isSome
  | _, _ => false
def chkSw2 (G : GC) (S : SX) (i j : Nat) (es : CEs) (tg e : Expr) : Bool := match tg, e with
  | .Tuple [.Name x px, .Name y py] _ _, .Tuple [b, c] _ _ => scFun S && decide (S.N[i]? = some x) && decide (S.N[j]? = some y) && decide (x ≠ y) && loc1 S x && loc1 S y && (py.line == px.line) && swapAsg [b, c] && chkEs G S es [b, c]
  | _, _ => false
def chkSw3 (G : GC) (S : SX) (i j l : Nat) (es : CEs) (tg e : Expr) : Bool := match tg, e with
  | .Tuple [.Name x px, .Name y py, .Name z pz] _ _, .Tuple [b, c, d] _ _ => scFun S && decide (S.N[i]? = some x) && decide (S.N[j]? = some y) && decide (S.N[l]? = some z) && decide (x ≠ y) && decide (x ≠ z) && decide (y ≠ z) && loc1 S x && loc1 S y && loc1 S z && (py.line == px.line) && (pz.line == px.line) && swapAsg [b, c, d] && chkEs G S es [b, c, d]
  | _, _ => false
def chkAsg (G : GC) (S : SX) (t : Tg) (a : CE) (s : Stmt) : Bool := match s with
  | .Assign [tg] e _ => chkAs1 G S t a tg e || (match t with
    | .nm i => chkLc G S i a tg e
    | .tp (.cons (.nm i) (.cons (.nm j) .nil)) => (match a with
      | .tup es => chkSw2 G S i j es tg e
      | _ => false)
    | .tp (.cons (.nm i) (.cons (.nm j) (.cons (.nm l) .nil))) => (match a with
      | .tup es => chkSw3 G S i j l es tg e
      | _ => false)
    | _ => false)
  | _ => false
def augB (o : Op) (op : Operator) : Bool := match o, op with
  | .add, .Add | .sub, .Sub => true
  | _, _ => false
def chkAug (G : GC) (S : SX) (i : Nat) (o : Op) (a : CE) (s : Stmt) : Bool := match s with
  | .AugAssign (.Name x _) op e _ => decide (S.N[i]? = some x) && stoB S x && augB o op && chkE G S a e
  | _ => false
def chkRet (G : GC) (S : SX) (fr : Bool) (a : CE) (s : Stmt) : Bool := match s with
  | .Return (some e) _ => (!fr || fresh G a) && chkE G S a e
  | _ => false
def isPas : Stmt → Bool
  | .Pass _ => true
  | _ => false
def isBrk : Stmt → Bool
  | .Break _ => true
  | _ => false
def isCnt : Stmt → Bool
  | .Continue _ => true
  | _ => false
def isRet0 : Stmt → Bool
  | .Return none _ => true
  | _ => false
mutual
def chkS (G : GC) (S : SX) (fr : Bool) : CS → Stmt → Bool
  | .nev, _ => true
  | .rais _ _, _ => false
  | .pas, s => isPas s
  | .brk, s => isBrk s
  | .cnt, s => isCnt s
  | .ret0, s => isRet0 s
  | .exp a, s => chkExp G S a s
  | .app o a, s => chkApp G S o a s
  | .ext o a, s => chkExt G S o a s
  | .asg t a, s => chkAsg G S t a s
  | .aug i o a, s => chkAug G S i o a s
  | .ret a, s => chkRet G S fr a s
  | .retL a, s => chkRet G S false a s
  | .ife t a b, s => match s with
    | .If u p q _ => tst t && chkE G S t u && chkSs G S fr a p && chkSs G S fr b q
    | _ => false
  | .for_ t it b, s => match s with
    | .For tg i body [] _ => chkI G S it i && (!wantTup it || isTup tg) && chkT G S t tg && chkSs G S fr b body
    | _ => false
  | .whl t b, s => match s with
    | .While u body [] _ => tst t && chkE G S t u && chkSs G S fr b body
    | _ => false
def chkSs (G : GC) (S : SX) (fr : Bool) : CSs → List Stmt → Bool
  | .nil, l => l.isEmpty
  | .cons a r, l => match l with
    | s :: t => chkS G S fr a s && chkSs G S fr r t
    | [] => false
end
/-! ### what a statement's outcome promises -/
def GS (K : PySem.W.Frag) : Rl En L2.St := fun W H W' s' H' e σ' => Pres W H W' H' ∧ RelSt K W' s' H' ∧ RelEn K W' H' e σ'
theorem GS.gt {K : PySem.W.Frag} : GT K (GS K) := ⟨fun p g => ⟨p.trans g.1, g.2⟩, fun g => g.1, fun g => g.2.1⟩
def SatS (K : PySem.W.Frag) (Wx : WX) (ea : Nat → Addr) (fr : Bool) (W : Wd) (H : Hp) (x : OutS) (D : Ends) : Prop :=
  match x with
  | .nx e s' => ∀ W' H' σ', GS K W H W' s' H' e σ' → D.nx σ' H'
  | .brk e s' => ∀ W' H' σ', GS K W H W' s' H' e σ' → D.bk σ' H'
  | .cnt e s' => ∀ W' H' σ', GS K W H W' s' H' e σ' → D.ct σ' H'
  | .ret d s' => ∀ W' H' v, Got K fr W H W' s' H' d v → D.rt v H'
  | .exc k v e s' => v = .non ∧ ∀ W' H' σ', GS K W H W' s' H' e σ' → Wx (.ref (ea k)) none σ' H'
  | .bad => False
section
variable {K : PySem.W.Frag} {Wx : WX} {ea : Nat → Addr} {fr : Bool} {σ : L2.St} {W W1 : Wd} {H H1 : Hp} {D : Ends}
theorem SatS.pres {x : OutS} (p : Pres W H W1 H1) (h : SatS K Wx ea fr W H x D) : SatS K Wx ea fr W1 H1 x D := by
  cases x with
  | nx e s => exact fun W' H' σ' g => h W' H' σ' (GS.gt.trans p g)
  | brk e s => exact fun W' H' σ' g => h W' H' σ' (GS.gt.trans p g)
  | cnt e s => exact fun W' H' σ' g => h W' H' σ' (GS.gt.trans p g)
  | ret d s => exact fun W' H' v g => h W' H' v (Got.trans (fr' := fr) p g)
  | exc k v e s => exact ⟨h.1, fun W' H' σ' g => h.2 W' H' σ' (GS.gt.trans p g)⟩
  | bad => exact h
theorem SatS.toS {x : Out Pv.En} {e : Pv.En} (En : RelEn K W H e σ) (h : SatS K Wx ea fr W H (Pv.toS x e) D) : Sat K Wx ea σ (GS K) W H x D.nx := by
  cases x with
  | ok e1 s => exact h
  | exc k v s => exact ⟨h.1, fun W' H' p r => h.2 W' H' σ ⟨p, r, En.pres p⟩⟩
  | bad => exact h
theorem Sat.weak {α β : Type} {G1 G2 : Rl α β} {x : Out α} {Q : β → Hp → Prop} (h : Sat K Wx ea σ G2 W H x Q) (i : ∀ {W' s' H' a b}, G1 W H W' s' H' a b → G2 W H W' s' H' a b) : Sat K Wx ea σ G1 W H x Q := by
  cases x with
  | ok a s => exact fun W' H' b g => h W' H' b (i g)
  | exc k v s => exact h
  | bad => exact h
theorem Sat.excS {α β : Type} {G1 : Rl α β} {x : Out α} {f : α → Sto → OutS} {e : Pv.En} {Q : β → Hp → Prop} (En : RelEn K W H e σ)
    (h : SatS K Wx ea fr W H (thenS x e f) D) (hq : ∀ a s1, x = .ok a s1 → SatS K Wx ea fr W H (f a s1) D → ∀ W' H' b, G1 W H W' s1 H' a b → Q b H') : Sat K Wx ea σ G1 W H x Q := by
  cases x with
  | ok a s => exact hq a s rfl h
  | exc k v s => exact ⟨h.1, fun W' H' p r => h.2 W' H' σ ⟨p, r, En.pres p⟩⟩
  | bad => exact h
end
section
variable (C : Cl) (K : PySem.W.Frag) (Wx : WX) (ea : Nat → Addr) (fr : Bool)
def tS (c : CS) : TS := fun D σ H => ∃ W e s, RelSt K W s H ∧ RelEn K W H e σ ∧ SatS K Wx ea fr W H (evS C c e s) D
def tSs (c : CSs) : TS := fun D σ H => ∃ W e s, RelSt K W s H ∧ RelEn K W H e σ ∧ SatS K Wx ea fr W H (evSs C c e s) D
end
section
variable {G : GC} {S : SX} {C : Cl} {Wx : WX} {ea : Nat → Addr} {k : Nat} {X : Cx} {fr : Bool}
theorem PS.by {e : Stmt} {t t' : TS} (h : PS X e t) (i : ∀ D σ H, t' D σ H → t D σ H) : PS X e t' := ⟨fun pins s σ H D I q => h.run pins s σ H D I (i D σ H q)⟩
theorem PSs.by {e : List Stmt} {t t' : TS} (h : PSs X e t) (i : ∀ D σ H, t' D σ H → t D σ H) : PSs X e t' := ⟨fun pins s σ H D I q => h.run pins s σ H D I (i D σ H q)⟩
theorem notComp_sw {e : Expr} {t : Option Expr} {l : Nat} {env : Env} (h : notComp e = true) : swapsWith e t l env = pure false := by
  cases e <;> first | rfl | cases h
theorem notComp_sole {e t : Expr} {l : Nat} {env : Env} (h : notComp e = true) : swapsWithSole [t] e l env = pure false := notComp_sw h
theorem filterMap_lt {α β : Type} (f : α → Option β) : ∀ (l : List α), (l.any fun a => (f a).isNone) = true → (l.filterMap f).length < l.length
  | [], h => by simp at h
  | a :: r, h => by
    have ih := filterMap_lt f r
    simp only [List.any_cons, Bool.or_eq_true] at h
    cases q : f a with
    | none =>
      rw [List.filterMap_cons_none q]
      have := List.length_filterMap_le f r
      simp only [List.length_cons]; omega
    | some b =>
      rw [q] at h
      rcases h with h | h
      · cases h
      · rw [List.filterMap_cons_some q]
        have := ih h
        simp only [List.length_cons]; omega
theorem plain_no {t e : Expr} (hsc : X.env.scope = S.sc) (h : plainAsg S t e = true) : swappedStores [t] e X.env = pure none := by
  unfold plainAsg at h
  split at h
  · rename_i ts k1 p1 vs k2 p2
    unfold swappedStores
    simp only
    simp only [Bool.or_eq_true, decide_eq_true_eq] at h
    split
    · rfl
    · rename_i h1
      split
      · rfl
      · split
        · rfl
        · rename_i h3
          rcases h with ((h | h) | h) | h
          · rw [if_pos h]
          · exfalso
            apply h1
            simp [h.1, h.2]
          · exfalso
            apply h1
            simp [h]
          · exfalso
            apply h3
            have : (ts.filterMap fun
              | .Name id pos => if X.env.kindOf id == some .local && pos.line == (ts.head?.map (·.pos.line)).getD 0 then some id else none
              | _ => none).length < ts.length := by
              apply filterMap_lt
              rw [List.any_eq_true] at h ⊢
              obtain ⟨a, ha, hb⟩ := h
              refine ⟨a, ha, ?_⟩
              split at hb
              · rename_i x p
                have : ¬ (X.env.scope.names.lookup x = some .local) := by
                  rw [hsc]
                  unfold loc1 at hb
                  simpa using hb
                have q : (X.env.kindOf x == some .local) = false := by
                  rw [beq_eq_false_iff_ne]
                  exact this
                simp [q]
              · rename_i hn
                cases a <;> first | rfl | exact absurd rfl (hn _ _)
            have q2 := Nat.ne_of_lt this
            simp only [Bool.or_eq_true, bne_iff_ne, ne_eq]
            exact .inl q2
  · cases h
  · rename_i h1 h2
    cases t with
    | List a b => exact (h1 _ _ rfl).elim
    | Tuple a b c =>
      cases e with
      | Tuple d f g => exact (h2 _ _ _ _ _ _ rfl rfl).elim
      | _ => rfl
    | _ => rfl
end
end Pv
end
section
set_option maxRecDepth 100000
set_option maxHeartbeats 4000000
namespace Pv
open PySem PySem.Spec PyProof.Rows L2
section
variable {G : GC} {S : SX} {C : Cl} {Wx : WX} {ea : Nat → Addr} {k : Nat} {X : Cx} {fr : Bool}
theorem t_thaw {a : CE} {σ : L2.St} {H : Hp} {Q : VK} (h : tE C X.K Wx ea false (.thaw a) σ H Q) : tE C X.K Wx ea true a σ H Q := by
  obtain ⟨W, e, s, R, En, h⟩ := h
  simp only [evE] at h
  refine ⟨W, e, s, R, En, ?_⟩
  cases q : evE C a e s with
  | bad => rw [q] at h; exact h.elim
  | exc _ _ _ => rw [q] at h; exact h
  | ok d s1 =>
    rw [q] at h
    intro W1 H1 v g1
    simp only [Out.bind] at h
    split at h
    · rename_i xs
      obtain ⟨p, vs, e1, np, o⟩ := g1.own rfl xs rfl
      subst e1
      split at h
      · have hl : W1.rho.length = s1.length := o.rel.len
        refine h ⟨W1.rho ++ [p], W1.av⟩ H1 (.ref p) ⟨g1.pres.cell np, o.cell, ?_, fun z => nomatch z⟩
        simp only [Rep]
        exact ⟨p, rfl, by rw [← hl]; simp⟩
      · exact h.elim
    · exact h.elim
theorem s_nev {st : Stmt} : PS X st (tS C X.K Wx ea fr .nev) := PS.by ps_never fun D σ H h => by
  obtain ⟨W, e, s, R, En, h⟩ := h
  exact h
theorem gs0 {K : PySem.W.Frag} {W : Wd} {H : Hp} {s : Sto} {e : Pv.En} {σ : L2.St} (R : RelSt K W s H) (En : RelEn K W H e σ) : GS K W H W s H e σ := ⟨Pres.refl, R, En⟩
theorem s_pas {pos : Pos} : PS X (.Pass pos) (tS C X.K Wx ea fr .pas) := PS.by ps_pass fun D σ H h => by
  obtain ⟨W, e, s, R, En, h⟩ := h
  exact h W H σ (gs0 R En)
theorem s_brk {pos : Pos} : PS X (.Break pos) (tS C X.K Wx ea fr .brk) := PS.by ps_break fun D σ H h => by
  obtain ⟨W, e, s, R, En, h⟩ := h
  exact h W H σ (gs0 R En)
theorem s_cnt {pos : Pos} : PS X (.Continue pos) (tS C X.K Wx ea fr .cnt) := PS.by ps_continue fun D σ H h => by
  obtain ⟨W, e, s, R, En, h⟩ := h
  exact h W H σ (gs0 R En)
theorem s_exp {a : CE} {x : Expr} {pos : Pos} (hn : notComp x = true) (ha : PE X x (tE C X.K Wx ea false a)) : PS X (.Expr x pos) (tS C X.K Wx ea fr (.exp a)) := by
  refine PS.by (ps_expr ha (notComp_sw hn)) fun D σ H h => ?_
  obtain ⟨W, e, s, R, En, h⟩ := h
  simp only [evS] at h
  refine ⟨W, e, s, R, En, (Sat.bind GE.gt GS.gt (h.toS En)).imp fun x H1 ⟨W1, s1, d1, g1, h1⟩ => ?_⟩
  exact h1 W1 H1 σ ⟨Pres.refl, g1.st, En.pres g1.pres⟩
theorem s_app {o a : CE} {l x : Expr} {apos cpos pos : Pos} (hb : baseB l = true) (hline : (apos.endLine == cpos.line) = true) (hs : noStar x = true) (ho : PE X l (tE C X.K Wx ea false o)) (ha : PE X x (tE C X.K Wx ea false a)) :
    PS X (.Expr (.Call (.Attribute l "append" apos) [x] [] cpos) pos) (tS C X.K Wx ea fr (.app o a)) := by
  refine PS.by (ps_expr (pe_bm PySem.F.plainAttrs_list PySem.F.slot_list_append PySem.F.type_list_append mt_appD ho (pa_cons ha pa_nil (star_cons hs)) (base_ok hb) (by rw [star_cons hs]; rfl) hline (star_cons hs) rfl)) fun D σ H h => ?_
  obtain ⟨W, e, s, R, En, h⟩ := h
  simp only [evS] at h
  refine ⟨W, e, s, R, En, (Sat.bind GE.gt GS.gt (h.toS En)).imp fun y H1 ⟨W1, s1, d1, g1, h1⟩ => ?_⟩
  obtain ⟨n, e1, h1⟩ := h1.onLoc
  subst e1
  refine ⟨loc_list g1.st g1.rep, W1, e, s1, g1.st, En.pres g1.pres, (Sat.bind GE.gt GS.gt h1).imp fun z H2 ⟨W2, s2, d2, g2, h2⟩ => ?_⟩
  simp only [appC] at h2
  split at h2
  · rename_i xs q
    split at h2
    · rename_i hl
      rcases putC_exc (n := n) (c := .lst (xs ++ [d2])) (s := s2) with ⟨s3, q3⟩ | q3
      · rw [q3] at h2
        exact ⟨W2, s2, n, d2, z, xs, s3, (), g2.st, Rep.pres g2.pres g1.rep, rfl, g2.rep, q, hl, q3, fun H' c => h2 W2 H' σ ⟨c.pres, c.st, (En.pres (g1.pres.trans g2.pres)).pres c.pres⟩⟩
      · rw [q3] at h2; exact h2.elim
    · exact h2.elim
  · exact h2.elim
theorem s_ext {o a : CE} {l x : Expr} {apos cpos pos : Pos} (hb : baseB l = true) (hline : (apos.endLine == cpos.line) = true) (hs : noStar x = true) (ho : PE X l (tE C X.K Wx ea false o)) (ha : PE X x (tE C X.K Wx ea true a)) :
    PS X (.Expr (.Call (.Attribute l "extend" apos) [x] [] cpos) pos) (tS C X.K Wx ea fr (.ext o a)) := by
  refine PS.by (ps_expr (pe_bm PySem.F.plainAttrs_list PySem.F.slot_list_extend PySem.F.type_list_extend mt_extD ho (pa_cons ha pa_nil (star_cons hs)) (base_ok hb) (by rw [star_cons hs]; rfl) hline (star_cons hs) rfl)) fun D σ H h => ?_
  obtain ⟨W, e, s, R, En, h⟩ := h
  simp only [evS] at h
  refine ⟨W, e, s, R, En, (Sat.bind GE.gt GS.gt (h.toS En)).imp fun y H1 ⟨W1, s1, d1, g1, h1⟩ => ?_⟩
  obtain ⟨n, e1, h1⟩ := h1.onLoc
  subst e1
  refine ⟨loc_list g1.st g1.rep, W1, e, s1, g1.st, En.pres g1.pres, (Sat.bind (GE.gt (fr := true)) GS.gt h1).imp fun z H2 ⟨W2, s2, d2, g2, h2⟩ => ?_⟩
  split at h2
  · rename_i ys q0
    simp only [extC] at h2
    split at h2
    · rename_i xs q
      split at h2
      · rename_i hl
        rcases putC_exc (n := n) (c := .lst (xs ++ ys)) (s := s2) with ⟨s3, q3⟩ | q3
        · rw [q3] at h2
          have trk : ∃ p zs, z = .ref p ∧ H2 p = some (.lst zs) ∧ Reps X.K W2 H2 ys zs := by
            cases d2 with
            | lst ds =>
              obtain ⟨p', vs, e1, _, ow⟩ := g2.own rfl ds rfl
              simp only [rd, Pv.D.lst.injEq] at q0
              subst q0
              exact ⟨p', vs, e1, ow.at_, Reps.by keeps_unavo ds (reps_below ds ow.reps) ow.reps⟩
            | loc m =>
              have r := g2.rep
              simp only [Rep] at r
              obtain ⟨p', e1, r⟩ := r
              obtain ⟨ds, vs, c1, c2, c3, _⟩ := g2.st.cell m p' r
              simp only [rd, List.getD_eq_getElem?_getD, c1, Option.getD_some, Pv.D.lst.injEq] at q0
              subst q0
              exact ⟨p', vs, e1, c2, c3⟩
            | _ => simp [rd] at q0
          obtain ⟨p, zs, ez, hz, rz⟩ := trk
          exact ⟨W2, s2, n, p, zs, xs, ys, s3, (), g2.st, Rep.pres g2.pres g1.rep, by rw [ez], hz, rz, q, hl, q3, fun H' c => h2 W2 H' σ ⟨c.pres, c.st, (En.pres (g1.pres.trans g2.pres)).pres c.pres⟩⟩
        · rw [q3] at h2; exact h2.elim
      · exact h2.elim
    · exact h2.elim
  · exact h2.elim
/-! ### assignments -/
theorem s_asg {t : Tg} {a : CE} {tg x : Expr} {pos : Pos} (hn : notComp x = true) (hst : noStar tg = true) (hw : swappedStores [tg] x X.env = pure none) (ht : PG X tg (tG C X.K Wx ea t)) (ha : PE X x (tE C X.K Wx ea false a)) : PS X (.Assign [tg] x pos) (tS C X.K Wx ea fr (.asg t a)) := by
  refine PS.by (ps_asg ha ht (notComp_sole hn) hw (by rw [assign_cons hst]; rfl)) fun D σ H h => ?_
  obtain ⟨W, e, s, R, En, h⟩ := h
  simp only [evS] at h
  refine ⟨W, e, s, R, En, (Sat.bind GE.gt GS.gt (h.toS En)).imp fun y H1 ⟨W1, s1, d1, g1, h1⟩ => ?_⟩
  exact ⟨W1, e, s1, d1, g1.st, En.pres g1.pres, g1.rep, h1.weak fun g => ⟨g.1, g.2.1, g.2.2.1⟩⟩
theorem t_asgLc {i : Nat} {a : CE} {D : Ends} {σ : L2.St} {H : Hp} (h : tS C X.K Wx ea fr (.asg (.nm i) a) D σ H) : tE C X.K Wx ea false a σ H fun x H1 => D.nx (σ.set i (some x)) H1 := by
  obtain ⟨W, e, s, R, En, h⟩ := h
  simp only [evS] at h
  refine ⟨W, e, s, R, En, (Sat.bind GE.gt GS.gt (h.toS En)).imp fun y H1 ⟨W1, s1, d1, g1, h1⟩ => ?_⟩
  simp only [evT] at h1
  exact h1 W1 H1 _ ⟨Pres.refl, g1.st, (En.pres g1.pres).set g1.rep i⟩
theorem t_frE {e : CE} {σ : L2.St} {H : Hp} {Q : VK} (h : tE C X.K Wx ea false e σ H Q) : tE C X.K Wx ea true e σ H Q := by
  obtain ⟨W, e, s, R, En, h⟩ := h
  exact ⟨W, e, s, R, En, h.weak fun g => Got.weak (fr := true) g⟩
theorem kind_of (c : Ctx G S C Wx ea k X) (h : scFun S = true) : X.env.scope.kind = .function := by
  rw [c.sc]
  unfold scFun at h
  split at h
  · assumption
  · cases h
theorem chkE_thaw {a : CE} {x : Expr} : chkE G S (.thaw a) x = (fresh G a && chkE G S a x) := by rw [chkE]
theorem s_asgLc {i : Nat} {a : CE} {y : Str} {py cp pos : Pos} {el u it : Expr} {fs : List Expr} {scope : Scope} (c : Ctx G S C Wx ea k X) (hk : scFun S = true) (hi : S.N[i]? = some y) (hl : loc1 S y = true) (hline : (py.line == cp.line) = true)
    (hany : (scope.names.any fun (n, k) => n == y && (k == .local || k == .cell)) = false) (hc : chkE G S a (.ListComp el [⟨u, it, fs, 0⟩] scope cp) = true) (hq : (isCompE a).isSome = true) :
    PS X (.Assign [.Name y py] (.ListComp el [⟨u, it, fs, 0⟩] scope cp) pos) (tS C X.K Wx ea fr (.asg (.nm i) a)) := by
  have hly : X.env.scope.names.lookup y = some .local := by rw [c.sc]; exact of_decide_eq_true hl
  have core : ∀ {own tg ci ifs elt}, chkE G S (.comp own tg ci ifs elt) (.ListComp el [⟨u, it, fs, 0⟩] scope cp) = true → (∀ D σ H, tS C X.K Wx ea fr (.asg (.nm i) a) D σ H → tE C X.K Wx ea true (.comp own tg ci ifs elt) σ H fun x H1 => D.nx (σ.set i (some x)) H1) →
      PS X (.Assign [.Name y py] (.ListComp el [⟨u, it, fs, 0⟩] scope cp) pos) (tS C X.K Wx ea fr (.asg (.nm i) a)) := fun {own tg ci ifs elt} h hr => by
    unfold chkE at h
    simp only [Bool.and_eq_true] at h
    obtain ⟨⟨⟨⟨⟨⟨h1, h2⟩, h3⟩, h4⟩, h5⟩, h6⟩, h7⟩ := h
    have hb : BlkOk X.N X.env.scope scope own := by rw [c.N, c.sc]; exact blkOk_by h1
    refine PS.by (ps_setLc (wi := tI C X.K Wx ea ci) (g := tG C X.K (fun _ _ _ _ => False) ea tg) (tt := tF C X.K (fun _ _ _ _ => False) ea ifs) (te := tE C X.K (fun _ _ _ _ => False) ea false elt) c.calm c.nd (by rw [c.N]; exact hi) hly (sw_true (kind_of c hk) hly hline hany)
      (sI G C ea k ci S Wx X it u c h2 (fun w => ?_)) hb (fun s H CA cl fp => ?_) (fun s H CA cl fp => ?_) (fun s H CA cl fp => ?_) (noSet_fold (chkI_set h2))) fun D σ H w => t_comp h4 (hr D σ H w)
    · revert h3
      cases ci <;> first | (intro _; cases w; done) | (cases u <;> intro h3 <;> first | rfl | cases h3)
    · exact sT G C ea k tg _ _ _ _ _ (c.blk s H CA cl fp) h5
    · exact sFs G C ea k ifs _ _ _ _ (c.blk s H CA cl fp) h6
    · exact (sE G C ea k elt _ _ _ _ (c.blk s H CA cl fp) h7).1 false (fun z => nomatch z)
  unfold isCompE at hq
  split at hq
  · exact core hc fun D σ H w => t_frE (t_asgLc w)
  · rw [chkE_thaw, Bool.and_eq_true] at hc
    exact core hc.2 fun D σ H w => t_thaw (t_asgLc w)
  · cases hq
theorem set_none {e : Pv.En} {s : Sto} {c : Cl} {i j : Nat} {d1 d2 : Pv.D} : evT c (.tp (.cons (.nm i) (.cons (.nm j) .nil))) (.tup [d1, d2]) e s = .ok ((e.set i (some d1)).set j (some d2)) s := rfl
theorem set_none3 {e : Pv.En} {s : Sto} {c : Cl} {i j l : Nat} {d1 d2 d3 : Pv.D} : evT c (.tp (.cons (.nm i) (.cons (.nm j) (.cons (.nm l) .nil)))) (.tup [d1, d2, d3]) e s = .ok (((e.set i (some d1)).set j (some d2)).set l (some d3)) s := rfl
theorem blockKind_of {env : Env} (h : env.scope.kind = .function) : env.blockKind = .function := by unfold Env.blockKind; rw [h]; rfl
theorem idx_ne {N : List Str} {i j : Nat} {x y : Str} (h1 : N[i]? = some x) (h2 : N[j]? = some y) (h : x ≠ y) : i ≠ j := fun e => by subst e; rw [h1] at h2; cases h2; exact h rfl
theorem star_no {e : Expr} (q : (match e with
    | .Starred _ _ => true
    | _ => false) = true) (h : noStar e = true) : False := by
  cases e <;> first | (cases q; done) | (cases h; done)
theorem swap_of {env : Env} {ts vs : List Expr} {k1 k2 : Nat} {p1 p2 : Pos} {names : List Str} (hk : env.blockKind = .function) (hlen : ts.length = 2 ∨ ts.length = 3) (hvl : vs.length = ts.length) (hs : swapAsg vs = true)
    (hn : (ts.filterMap fun
      | .Name id pos => if env.kindOf id == some .local && pos.line == (ts.head?.map (·.pos.line)).getD 0 then some id else none
      | _ => none) = names) (hd : names.length = ts.length) (hdd : names.eraseDups.length = names.length) : swappedStores [.Tuple ts k1 p1] (.Tuple vs k2 p2) env = pure (some names) := by
  unfold swapAsg at hs
  simp only [Bool.and_eq_true, Bool.not_eq_true', List.all_eq_true] at hs
  obtain ⟨⟨h1, h2⟩, h3⟩ := hs
  unfold swappedStores
  simp only
  split
  · rename_i h
    exfalso
    rcases hlen with q | q <;> simp [q, hvl, hk] at h
  · split
    · rename_i h
      exfalso
      obtain ⟨e, he, hb⟩ := List.any_eq_true.mp h
      exact star_no hb (h3 e he)
    · generalize hg : List.filterMap _ ts = nm
      have en : nm = names := by rw [← hg]; exact hn
      subst en
      split
      · rename_i h
        exfalso
        simp [hd, hdd] at h
      · split
        · rename_i h
          rw [h1] at h
          cases h
        · split
          · rename_i h
            rw [h2] at h
            cases h
          · rfl
theorem Reps.one' {K : PySem.W.Frag} {W : Wd} {H : Hp} {d : Pv.D} {ds : List Pv.D} {vs : List V} (h : Reps K W H (d :: ds) vs) : ∃ v r, vs = v :: r ∧ Rep K W H d v ∧ Reps K W H ds r := h
theorem Reps.two {K : PySem.W.Frag} {W : Wd} {H : Hp} {ds : List Pv.D} {vs : List V} (h : Reps K W H ds vs) (hl : ds.length = 2) : ∃ d1 d2 v1 v2, ds = [d1, d2] ∧ vs = [v1, v2] ∧ Rep K W H d1 v1 ∧ Rep K W H d2 v2 := by
  match ds, hl with
  | [d1, d2], _ =>
    obtain ⟨v1, r, e1, h1, h2⟩ := h.one'
    obtain ⟨v2, r2, e2, h3, h4⟩ := h2.one'
    have h4 : r2 = [] := h4
    exact ⟨d1, d2, v1, v2, rfl, by rw [e1, e2, h4], h1, h3⟩
theorem Reps.three {K : PySem.W.Frag} {W : Wd} {H : Hp} {ds : List Pv.D} {vs : List V} (h : Reps K W H ds vs) (hl : ds.length = 3) : ∃ d1 d2 d3 v1 v2 v3, ds = [d1, d2, d3] ∧ vs = [v1, v2, v3] ∧ Rep K W H d1 v1 ∧ Rep K W H d2 v2 ∧ Rep K W H d3 v3 := by
  match ds, hl with
  | [d1, d2, d3], _ =>
    obtain ⟨v1, r, e1, h1, h2⟩ := h.one'
    obtain ⟨v2, r2, e2, h3, h4⟩ := h2.one'
    obtain ⟨v3, r3, e3, h5, h6⟩ := h4.one'
    have h6 : r3 = [] := h6
    exact ⟨d1, d2, d3, v1, v2, v3, rfl, by rw [e1, e2, e3, h6], h1, h3, h5⟩
theorem s_swap2 {i j : Nat} {es : CEs} {x y : Str} {b d : Expr} {px py pt pos : Pos} {kt k2 : Nat} {pt2 : Pos} (c : Ctx G S C Wx ea k X) (hk : scFun S = true) (hi : S.N[i]? = some x) (hj : S.N[j]? = some y) (hxy : x ≠ y) (hx : loc1 S x = true) (hy : loc1 S y = true) (hl : (py.line == px.line) = true)
    (hs : swapAsg [b, d] = true) (hc : chkEs G S es [b, d] = true) (ha : PA X [b, d] (tA C X.K Wx ea es)) :
    PS X (.Assign [.Tuple [.Name x px, .Name y py] kt pt] (.Tuple [b, d] k2 pt2) pos) (tS C X.K Wx ea fr (.asg (.tp (.cons (.nm i) (.cons (.nm j) .nil))) (.tup es))) := by
  have hlx : X.env.scope.names.lookup x = some .local := by rw [c.sc]; exact of_decide_eq_true hx
  have hly : X.env.scope.names.lookup y = some .local := by rw [c.sc]; exact of_decide_eq_true hy
  have kx : X.env.kindOf x = some .local := hlx
  have ky : X.env.kindOf y = some .local := hly
  have hl' : py.line = px.line := eq_of_beq hl
  have hsw : swappedStores [.Tuple [.Name x px, .Name y py] kt pt] (.Tuple [b, d] k2 pt2) X.env = pure (some [x, y]) := by
    refine swap_of (blockKind_of (kind_of c hk)) (.inl rfl) rfl hs ?_ rfl (by simp [List.eraseDups_cons, Ne.symm hxy])
    rw [show (([Expr.Name x px, Expr.Name y py].head?).map fun e => e.pos.line).getD 0 = px.line from rfl]
    simp only [List.filterMap_cons, List.filterMap_nil, kx, ky, hl', beq_self_eq_true, Bool.and_self, if_true]
  have hi' : X.N[i]? = some x := by rw [c.N]; exact hi
  have hj' : X.N[j]? = some y := by rw [c.N]; exact hj
  have hso : swapsWithSole [.Tuple [.Name x px, .Name y py] kt pt] (.Tuple [b, d] k2 pt2) pos.line X.env = pure false := notComp_sole rfl
  have P := ps_par (pos := pos) c.calm c.nd hi' hj' (idx_ne hi hj hxy) hlx hly ha hsw hso
  refine PS.by P fun D σ H h => ?_
  obtain ⟨W, e, s, R, En, h⟩ := h
  simp only [evS, evE, bind_assoc] at h
  obtain ⟨W0, e0, s0, R0, En0, h0⟩ := t_args GS.gt hc R En (h.toS En)
  refine ⟨W0, e0, s0, R0, En0, h0.imp fun vs H1 ⟨W1, s1, ds, p1, r1, q1, l1, h1⟩ => ?_⟩
  obtain ⟨d1, d2, v1, v2, rfl, rfl, r11, r12⟩ := q1.two (by rw [q1.length, l1]; rfl)
  · rw [show (Out.ok (Pv.D.tup [d1, d2]) s1 : Out Pv.D).bind (fun d s => evT C (.tp (.cons (.nm i) (.cons (.nm j) .nil))) d e s) = .ok ((e.set i (some d1)).set j (some d2)) s1 from rfl] at h1
    exact ⟨v1, v2, rfl, h1 W1 H1 _ ⟨Pres.refl, r1, ((En.pres p1).set r11 i).set r12 j⟩⟩
end
end Pv
end
section
set_option maxRecDepth 100000
set_option maxHeartbeats 1000000
namespace Pv
open PySem PySem.Spec PyProof.Rows L2
section
variable {G : GC} {S : SX} {C : Cl} {Wx : WX} {ea : Nat → Addr} {k : Nat} {X : Cx} {fr : Bool}
theorem s_swap3 {i j l : Nat} {es : CEs} {x y z : Str} {b d f : Expr} {px py pz pt pos : Pos} {kt k2 : Nat} {pt2 : Pos} (c : Ctx G S C Wx ea k X) (hk : scFun S = true) (hi : S.N[i]? = some x) (hj : S.N[j]? = some y) (hll : S.N[l]? = some z)
    (hxy : x ≠ y) (hxz : x ≠ z) (hyz : y ≠ z) (hx : loc1 S x = true) (hy : loc1 S y = true) (hz : loc1 S z = true) (hl : (py.line == px.line) = true) (hl2 : (pz.line == px.line) = true)
    (hs : swapAsg [b, d, f] = true) (hc : chkEs G S es [b, d, f] = true) (ha : PA X [b, d, f] (tA C X.K Wx ea es)) :
    PS X (.Assign [.Tuple [.Name x px, .Name y py, .Name z pz] kt pt] (.Tuple [b, d, f] k2 pt2) pos) (tS C X.K Wx ea fr (.asg (.tp (.cons (.nm i) (.cons (.nm j) (.cons (.nm l) .nil)))) (.tup es))) := by
  have hlx : X.env.scope.names.lookup x = some .local := by rw [c.sc]; exact of_decide_eq_true hx
  have hly : X.env.scope.names.lookup y = some .local := by rw [c.sc]; exact of_decide_eq_true hy
  have hlz : X.env.scope.names.lookup z = some .local := by rw [c.sc]; exact of_decide_eq_true hz
  have kx : X.env.kindOf x = some .local := hlx
  have ky : X.env.kindOf y = some .local := hly
  have kz : X.env.kindOf z = some .local := hlz
  have hl' : py.line = px.line := eq_of_beq hl
  have hl2' : pz.line = px.line := eq_of_beq hl2
  have hsw : swappedStores [.Tuple [.Name x px, .Name y py, .Name z pz] kt pt] (.Tuple [b, d, f] k2 pt2) X.env = pure (some [x, y, z]) := by
    refine swap_of (blockKind_of (kind_of c hk)) (.inr rfl) rfl hs ?_ rfl (by simp [List.eraseDups_cons, Ne.symm hxy, Ne.symm hxz, Ne.symm hyz])
    rw [show (([Expr.Name x px, Expr.Name y py, Expr.Name z pz].head?).map fun e => e.pos.line).getD 0 = px.line from rfl]
    simp only [List.filterMap_cons, List.filterMap_nil, kx, ky, kz, hl', hl2', beq_self_eq_true, Bool.and_self, if_true]
  have hi' : X.N[i]? = some x := by rw [c.N]; exact hi
  have hj' : X.N[j]? = some y := by rw [c.N]; exact hj
  have hl3 : X.N[l]? = some z := by rw [c.N]; exact hll
  have hso : swapsWithSole [.Tuple [.Name x px, .Name y py, .Name z pz] kt pt] (.Tuple [b, d, f] k2 pt2) pos.line X.env = pure false := notComp_sole rfl
  have P := ps_par3 (pos := pos) c.calm c.nd hi' hj' hl3 (idx_ne hi hj hxy) (idx_ne hi hll hxz) (idx_ne hj hll hyz) hlx hly hlz ha hsw hso
  refine PS.by P fun D σ H h => ?_
  obtain ⟨W, e, s, R, En, h⟩ := h
  simp only [evS, evE, bind_assoc] at h
  obtain ⟨W0, e0, s0, R0, En0, h0⟩ := t_args GS.gt hc R En (h.toS En)
  refine ⟨W0, e0, s0, R0, En0, h0.imp fun vs H1 ⟨W1, s1, ds, p1, r1, q1, l1, h1⟩ => ?_⟩
  obtain ⟨d1, d2, d3, v1, v2, v3, rfl, rfl, r11, r12, r13⟩ := q1.three (by rw [q1.length, l1]; rfl)
  · rw [show (Out.ok (Pv.D.tup [d1, d2, d3]) s1 : Out Pv.D).bind (fun d s => evT C (.tp (.cons (.nm i) (.cons (.nm j) (.cons (.nm l) .nil)))) d e s) = .ok (((e.set i (some d1)).set j (some d2)).set l (some d3)) s1 from rfl] at h1
    exact ⟨v1, v2, v3, rfl, h1 W1 H1 _ ⟨Pres.refl, r1, (((En.pres p1).set r11 i).set r12 j).set r13 l⟩⟩
def augOp : Op → Operator
  | .add => .Add
  | _ => .Sub
theorem ip_aug {o : Op} : PIp X (augOp o) (ipI fun m n => match o with
      | .add => m + n
      | _ => m - n) := by
  cases o <;> first | exact ip_add | exact ip_sub
theorem s_aug {i : Nat} {o : Op} {a : CE} {x : Str} {e : Expr} {p pos : Pos} (c : Ctx G S C Wx ea k X) (hi : S.N[i]? = some x) (hs : stoB S x = true) (ha : PE X e (tE C X.K Wx ea false a)) : PS X (.AugAssign (.Name x p) (augOp o) e pos) (tS C X.K Wx ea fr (.aug i o a)) := by
  have hl : locB S.sc x = true := by unfold stoB at hs; simp only [Bool.and_eq_true] at hs; exact hs.1
  refine PS.by (ps_aug c.nd (by rw [c.N]; exact hi) (by rw [c.sc]; exact loc_of hl) ha (ip_aug (o := o)) (c.sto x hs)) fun D σ H h => ?_
  obtain ⟨W, en, s, R, En, h⟩ := h
  simp only [evS, evE] at h
  have h := h.toS En
  split at h
  · rename_i d hd
    simp only [Out.bind] at h
    obtain ⟨v, e1, rv⟩ := En.2 i d hd
    refine ⟨v, e1, W, en, s, R, En, (Sat.bind GE.gt GS.gt h).imp fun y H1 ⟨W1, s1, d1, g1, h1⟩ => ?_⟩
    split at h1
    · exact ⟨_, _, rv, g1.rep, h1 W1 H1 _ ⟨Pres.refl, g1.st, (En.pres g1.pres).set (d := .int _) (v := .int _) rfl i⟩⟩
    · exact h1.elim
  · exact h.elim
/-! ### flow -/
theorem s_ret {a : CE} {e : Expr} {pos : Pos} (ha : PE X e (tE C X.K Wx ea fr a)) : PS X (.Return (some e) pos) (tS C X.K Wx ea fr (.ret a)) := by
  refine PS.by (ps_ret ha) fun D σ H h => ?_
  obtain ⟨W, en, s, R, En, h⟩ := h
  simp only [evS] at h
  exact ⟨W, en, s, R, En, Sat.excS En h fun d s1 _ h1 => h1⟩
theorem s_retL {a : CE} {e : Expr} {pos : Pos} (ha : PE X e (tE C X.K Wx ea false a)) : PS X (.Return (some e) pos) (tS C X.K Wx ea fr (.retL a)) := by
  refine PS.by (ps_ret ha) fun D σ H h => ?_
  obtain ⟨W, en, s, R, En, h⟩ := h
  simp only [evS] at h
  refine ⟨W, en, s, R, En, Sat.excS En h fun d s1 _ h1 => ?_⟩
  cases d with
  | loc n => exact fun W' H' v g => h1 W' H' v ⟨g.pres, g.st, g.rep, fun _ ds z => nomatch z⟩
  | _ => exact h1.elim
theorem s_ret0 {pos : Pos} : PS X (.Return none pos) (tS C X.K Wx ea fr .ret0) := PS.by ps_retN fun D σ H h => by
  obtain ⟨W, e, s, R, En, h⟩ := h
  exact h W H .non (Got.val R rfl rfl)
theorem s_ife {t : CE} {a b : CSs} {u : Expr} {p q : List Stmt} {pos : Pos} (ht : PT X u (tT C X.K Wx ea t)) (ha : PSs X p (tSs C X.K Wx ea fr a)) (hb : PSs X q (tSs C X.K Wx ea fr b)) : PS X (.If u p q pos) (tS C X.K Wx ea fr (.ife t a b)) := by
  refine PS.by (ps_if ht ha hb) fun D σ H h => ?_
  obtain ⟨W, en, s, R, En, h⟩ := h
  simp only [evS] at h
  refine ⟨W, en, s, R, En, Sat.excS En h fun kk s1 _ h1 W' H' b' g => ?_⟩
  obtain ⟨g1, g2, rfl⟩ := g
  cases kk with
  | true =>
    simp only [if_true] at h1 ⊢
    exact ⟨W', en, s1, g2, En.pres g1, h1.pres g1⟩
  | false =>
    simp only [Bool.false_eq_true, if_false] at h1 ⊢
    exact ⟨W', en, s1, g2, En.pres g1, h1.pres g1⟩
theorem ss_nil : PSs X [] (tSs C X.K Wx ea fr .nil) := PSs.by pss_nil fun D σ H h => by
  obtain ⟨W, e, s, R, En, h⟩ := h
  exact h W H σ (gs0 R En)
theorem ss_cons {a : CS} {r : CSs} {x : Stmt} {l : List Stmt} (ha : PS X x (tS C X.K Wx ea fr a)) (hr : PSs X l (tSs C X.K Wx ea fr r)) : PSs X (x :: l) (tSs C X.K Wx ea fr (.cons a r)) := by
  refine PSs.by (pss_cons ha hr) fun D σ H h => ?_
  obtain ⟨W, en, s, R, En, h⟩ := h
  simp only [evSs] at h
  refine ⟨W, en, s, R, En, ?_⟩
  cases q : evS C a en s with
  | nx e1 s1 =>
    rw [q] at h
    exact fun W' H' σ' g => ⟨W', e1, s1, g.2.1, g.2.2, SatS.pres g.1 h⟩
  | brk e1 s1 => rw [q] at h; exact h
  | cnt e1 s1 => rw [q] at h; exact h
  | ret d s1 => rw [q] at h; exact h
  | exc k v e1 s1 => rw [q] at h; exact h
  | bad => rw [q] at h; exact h
theorem s_whl {t : CE} {b : CSs} {u : Expr} {l : List Stmt} {pos : Pos} (hp : PassesOwn (model X.prog X.w) X.A X.env X.xe) (ht : PT X u (tT C X.K Wx ea t)) (hb : PSs X l (tSs C X.K Wx ea fr b)) : PS X (.While u l [] pos) (tS C X.K Wx ea fr (.whl t b)) := by
  refine PS.by (ps_while hp ht hb) fun D σ H h => ?_
  obtain ⟨W, en, s, R, En, h⟩ := h
  simp only [evS] at h
  refine ⟨fun m σ H => ∃ W e s, RelSt X.K W s H ∧ RelEn X.K W H e σ ∧ SatS X.K Wx ea fr W H (loopW (fun e s => (evE C t e s).bind truth) (fun e s => evSs C b e s) m e s) D, ⟨_, W, en, s, R, En, h⟩, ?_⟩
  rintro m σ H ⟨W, e, s, R, En, h⟩
  cases m with
  | zero => exact h.elim
  | succ m =>
    simp only [loopW] at h
    refine ⟨W, e, s, R, En, ?_⟩
    cases q : (evE C t e s).bind truth with
    | bad => rw [q] at h; exact h.elim
    | exc k v s1 => rw [q] at h; exact ⟨h.1, fun W' H' p r => h.2 W' H' σ ⟨p, r, En.pres p⟩⟩
    | ok kk s1 =>
      rw [q] at h
      rintro W1 H1 b1 ⟨p1, r1, rfl⟩
      have En1 := En.pres p1
      cases kk with
      | false =>
        simp only [Bool.false_eq_true, if_false]
        exact h W1 H1 σ ⟨p1, r1, En1⟩
      | true =>
        simp only [if_true]
        refine ⟨fun σ' H' => ∃ W e s, RelSt X.K W s H' ∧ RelEn X.K W H' e σ' ∧ SatS X.K Wx ea fr W H' (loopW (fun e s => (evE C t e s).bind truth) (fun e s => evSs C b e s) m e s) D, fun σ' H' n => ⟨m, Nat.lt_succ_self m, n⟩, W1, e, s1, r1, En1, ?_⟩
        have h : SatS X.K Wx ea fr W H (match evSs C b e s1 with
          | .nx e2 s2 => loopW (fun e s => (evE C t e s).bind truth) (fun e s => evSs C b e s) m e2 s2
          | .cnt e2 s2 => loopW (fun e s => (evE C t e s).bind truth) (fun e s => evSs C b e s) m e2 s2
          | .brk e2 s2 => .nx e2 s2
          | x => x) D := h
        have h := h.pres p1
        cases q2 : evSs C b e s1 with
        | nx e2 s2 => rw [q2] at h; exact fun W' H' σ' g => ⟨W', e2, s2, g.2.1, g.2.2, SatS.pres g.1 h⟩
        | cnt e2 s2 => rw [q2] at h; exact fun W' H' σ' g => ⟨W', e2, s2, g.2.1, g.2.2, SatS.pres g.1 h⟩
        | brk e2 s2 => rw [q2] at h; exact h
        | ret d s2 => rw [q2] at h; exact h
        | exc k v e2 s2 => rw [q2] at h; exact h
        | bad => rw [q2] at h; exact h
theorem s_for {t : Tg} {it : CI} {b : CSs} {tg i : Expr} {l : List Stmt} {pos : Pos} (hp : PassesOwn (model X.prog X.w) X.A X.env X.xe) (hc : X.calm = true) (hi : PI X tg i (tI C X.K Wx ea it)) (ht : PG X tg (tG C X.K Wx ea t)) (hb : PSs X l (tSs C X.K Wx ea fr b)) (hs : noSet i = true) :
    PS X (.For tg i l [] pos) (tS C X.K Wx ea fr (.for_ t it b)) := by
  refine PS.by (ps_for hp hc hi ht hb (noSet_fold hs)) fun D σ H h => ?_
  obtain ⟨W, en, s, R, En, h⟩ := h
  simp only [evS] at h
  refine ⟨W, en, s, R, En, Sat.excS En h fun w s1 _ h1 W1 H1 J g => ?_⟩
  obtain ⟨ds, gd⟩ := w
  obtain ⟨p1, R1, Sq, wd, sq⟩ := g
  have h1 := h1.pres p1
  have En1 := En.pres p1
  generalize hbd : (fun (d : Pv.D) (e : Pv.En) (s : Sto) => thenS (evT C t d e s) e fun e1 s1 => evSs C b e1 s1) = body at h1
  have hbody : ∀ d e s, body d e s = thenS (evT C t d e s) e fun e1 s1 => evSs C b e1 s1 := fun d e s => by rw [← hbd]
  clear hbd
  simp only at h1
  refine ⟨fun i m σ H => m = ds.length - i ∧ i ≤ ds.length ∧ ∃ W e s, Pres W1 H1 W H ∧ RelSt X.K W s H ∧ RelEn X.K W H e σ ∧ SatS X.K Wx ea fr W H (loopS body gd (ds.drop i) e s) D, ⟨ds.length, by simp, Nat.zero_le _, W1, en, s1, Pres.refl, R1, En1, h1⟩, ?_⟩
  rintro i m σ H ⟨rfl, hi, W, e, s, p, R, En, h⟩
  have sq2 : Sq W H := wd.mono (p.keeps _) sq
  by_cases hlt : i < ds.length
  · right
    rw [List.drop_eq_getElem_cons hlt] at h
    simp only [loopS] at h
    split at h
    case isFalse => exact h.elim
    rename_i hg
    refine ⟨wd.go i _ s H hlt R hg sq2, fun σ' H' => ∃ W e s, Pres W1 H1 W H' ∧ RelSt X.K W s H' ∧ RelEn X.K W H' e σ' ∧ SatS X.K Wx ea fr W H' (loopS body gd (ds.drop (i + 1)) e s) D,
      fun σ' H' nx => ⟨ds.length - (i + 1), by omega, rfl, hlt, nx⟩, fun x H3 y3 => ?_⟩
    obtain ⟨d, ed, p3, R3, r3⟩ := wd.yld i _ s H x H3 hlt R hg sq2 y3
    rw [List.getElem?_eq_getElem hlt] at ed
    cases ed
    have h := h.pres p3
    rw [hbody] at h
    refine ⟨W, e, s, ds[i], R3, En.pres p3, r3, ?_⟩
    cases q1 : evT C t ds[i] e s with
    | bad => rw [q1] at h; exact h.elim
    | exc _ _ _ => exact absurd q1 (evT_no t _ e s)
    | ok e1 t1 =>
      rw [q1] at h
      rintro W4 H4 σ4 ⟨p4, R4, En4, _⟩
      have h := h.pres p4
      refine ⟨W4, e1, t1, R4, En4, ?_⟩
      have p14 := p.trans (p3.trans p4)
      simp only [thenS] at h
      cases q2 : evSs C b e1 t1 with
      | nx e2 s2 => rw [q2] at h; exact fun W' H' σ' g => ⟨W', e2, s2, p14.trans g.1, g.2.1, g.2.2, SatS.pres g.1 h⟩
      | cnt e2 s2 => rw [q2] at h; exact fun W' H' σ' g => ⟨W', e2, s2, p14.trans g.1, g.2.1, g.2.2, SatS.pres g.1 h⟩
      | brk e2 s2 => rw [q2] at h; exact h
      | ret d s2 => rw [q2] at h; exact h
      | exc k v e2 s2 => rw [q2] at h; exact h
      | bad => rw [q2] at h; exact h
  · left
    have ei : i = ds.length := by omega
    subst ei
    rw [List.drop_length] at h
    simp only [loopS] at h
    split at h
    case isFalse => exact h.elim
    rename_i hg
    exact ⟨wd.stop _ s H R hg sq2, h W H σ (gs0 R En)⟩
/-- where statements stand -/
structure CtxS (G : GC) (S : SX) (C : Cl) (Wx : WX) (ea : Nat → Addr) (k : Nat) (X : Cx) : Prop extends Ctx G S C Wx ea k X where
  pass : PassesOwn (model X.prog X.w) X.A X.env X.xe
theorem pE (c : Ctx G S C Wx ea k X) {a : CE} {x : Expr} (h : chkE G S a x = true) : PE X x (tE C X.K Wx ea false a) := (sE G C ea k a S Wx X x c h).1 false (fun z => nomatch z)
theorem pT (c : Ctx G S C Wx ea k X) {a : CE} {x : Expr} (h : chkE G S a x = true) (t : tst a = true) : PT X x (tT C X.K Wx ea a) := (sE G C ea k a S Wx X x c h).2.1 t
theorem aug_eq {o : Op} {op : Operator} (h : augB o op = true) : op = augOp o := by cases o <;> cases op <;> first | rfl | cases h
variable (G C ea k)
theorem sExp (c : CtxS G S C Wx ea k X) {a : CE} {x : Stmt} (h : chkExp G S a x = true) : PS X x (tS C X.K Wx ea fr (.exp a)) := by
  unfold chkExp at h
  split at h
  · rw [Bool.and_eq_true] at h
    exact s_exp h.1 (pE c.toCtx h.2)
  · cases h
theorem sApp (c : CtxS G S C Wx ea k X) {o a : CE} {x : Stmt} (h : chkApp G S o a x = true) : PS X x (tS C X.K Wx ea fr (.app o a)) := by
  unfold chkApp at h
  split at h
  · simp only [Bool.and_eq_true, decide_eq_true_eq] at h
    obtain ⟨⟨⟨⟨⟨h1, h2⟩, h3⟩, h4⟩, h5⟩, h6⟩ := h
    subst h1
    exact s_app h2 h3 h5 (pE c.toCtx h4) (pE c.toCtx h6)
  · cases h
theorem sExt (c : CtxS G S C Wx ea k X) {o a : CE} {x : Stmt} (h : chkExt G S o a x = true) : PS X x (tS C X.K Wx ea fr (.ext o a)) := by
  unfold chkExt at h
  split at h
  · simp only [Bool.and_eq_true, decide_eq_true_eq] at h
    obtain ⟨⟨⟨⟨⟨⟨h1, h2⟩, h3⟩, h4⟩, h5⟩, h6⟩, h7⟩ := h
    subst h1
    exact s_ext h2 h3 h5 (pE c.toCtx h4) ((sE G C ea k a S Wx X _ c.toCtx h7).1 true (fun _ => h6))
  · cases h
theorem sAs1 (c : CtxS G S C Wx ea k X) {t : Tg} {a : CE} {tg e : Expr} {p : Pos} (h : chkAs1 G S t a tg e = true) : PS X (.Assign [tg] e p) (tS C X.K Wx ea fr (.asg t a)) := by
  unfold chkAs1 at h
  simp only [Bool.and_eq_true] at h
  obtain ⟨⟨⟨⟨h1, h2⟩, h3⟩, h4⟩, h5⟩ := h
  exact s_asg h1 h2 (plain_no c.sc h3) (sT G C ea k t S Wx Wx X tg c.toCtx h4) (pE c.toCtx h5)
theorem sLc (c : CtxS G S C Wx ea k X) {i : Nat} {a : CE} {tg e : Expr} {p : Pos} (h : chkLc G S i a tg e = true) : PS X (.Assign [tg] e p) (tS C X.K Wx ea fr (.asg (.nm i) a)) := by
  unfold chkLc at h
  split at h
  · rw [Bool.and_eq_true, Bool.and_eq_true, Bool.and_eq_true, Bool.and_eq_true, Bool.and_eq_true, Bool.and_eq_true, Bool.not_eq_true'] at h
    obtain ⟨⟨⟨⟨⟨⟨h1, h2⟩, h3⟩, h4⟩, h5⟩, h6⟩, h7⟩ := h
    exact s_asgLc c.toCtx h1 (of_decide_eq_true h2) h3 h4 h5 h6 h7
  · cases h
theorem sSw2 (c : CtxS G S C Wx ea k X) {i j : Nat} {es : CEs} {tg e : Expr} {p : Pos} (h : chkSw2 G S i j es tg e = true) : PS X (.Assign [tg] e p) (tS C X.K Wx ea fr (.asg (.tp (.cons (.nm i) (.cons (.nm j) .nil))) (.tup es))) := by
  unfold chkSw2 at h
  split at h
  · simp only [Bool.and_eq_true, decide_eq_true_eq] at h
    obtain ⟨⟨⟨⟨⟨⟨⟨⟨h1, h2⟩, h3⟩, h4⟩, h5⟩, h6⟩, h7⟩, h8⟩, h9⟩ := h
    exact s_swap2 c.toCtx h1 h2 h3 h4 h5 h6 h7 h8 h9 (sEs G C ea k _ S Wx X _ c.toCtx h9).1
  · cases h
theorem sSw3 (c : CtxS G S C Wx ea k X) {i j l : Nat} {es : CEs} {tg e : Expr} {p : Pos} (h : chkSw3 G S i j l es tg e = true) : PS X (.Assign [tg] e p) (tS C X.K Wx ea fr (.asg (.tp (.cons (.nm i) (.cons (.nm j) (.cons (.nm l) .nil)))) (.tup es))) := by
  unfold chkSw3 at h
  split at h
  · simp only [Bool.and_eq_true, decide_eq_true_eq] at h
    obtain ⟨⟨⟨⟨⟨⟨⟨⟨⟨⟨⟨⟨⟨h1, h2⟩, h3⟩, h4⟩, h5⟩, h6⟩, h7⟩, h8⟩, h9⟩, h10⟩, h11⟩, h12⟩, h13⟩, h14⟩ := h
    exact s_swap3 c.toCtx h1 h2 h3 h4 h5 h6 h7 h8 h9 h10 h11 h12 h13 h14 (sEs G C ea k _ S Wx X _ c.toCtx h14).1
  · cases h
theorem sAsg (c : CtxS G S C Wx ea k X) {t : Tg} {a : CE} {x : Stmt} (h : chkAsg G S t a x = true) : PS X x (tS C X.K Wx ea fr (.asg t a)) := by
  unfold chkAsg at h
  split at h
  · rw [Bool.or_eq_true] at h
    rcases h with h | h
    · exact sAs1 G C ea k c h
    · split at h
      · exact sLc G C ea k c h
      · split at h
        · exact sSw2 G C ea k c h
        · cases h
      · split at h
        · exact sSw3 G C ea k c h
        · cases h
      · cases h
  · cases h
theorem sAug (c : CtxS G S C Wx ea k X) {i : Nat} {o : Op} {a : CE} {x : Stmt} (h : chkAug G S i o a x = true) : PS X x (tS C X.K Wx ea fr (.aug i o a)) := by
  unfold chkAug at h
  split at h
  · simp only [Bool.and_eq_true, decide_eq_true_eq] at h
    obtain ⟨⟨⟨h1, h2⟩, h3⟩, h4⟩ := h
    rw [aug_eq h3]
    exact s_aug c.toCtx h1 h2 (pE c.toCtx h4)
  · cases h
theorem sRet (c : CtxS G S C Wx ea k X) {a : CE} {x : Stmt} (h : chkRet G S fr a x = true) : PS X x (tS C X.K Wx ea fr (.ret a)) := by
  unfold chkRet at h
  split at h
  · simp only [Bool.and_eq_true, Bool.or_eq_true, Bool.not_eq_true'] at h
    refine s_ret ((sE G C ea k a S Wx X _ c.toCtx h.2).1 fr fun z => ?_)
    rcases h.1 with q | q
    · rw [z] at q; cases q
    · exact q
  · cases h
theorem sRetL (c : CtxS G S C Wx ea k X) {a : CE} {x : Stmt} (h : chkRet G S false a x = true) : PS X x (tS C X.K Wx ea fr (.retL a)) := by
  unfold chkRet at h
  split at h
  · rw [Bool.and_eq_true] at h
    exact s_retL (pE c.toCtx h.2)
  · cases h
theorem isPas_of {x : Stmt} (h : isPas x = true) : ∃ p, x = .Pass p := by unfold isPas at h; split at h; exact ⟨_, rfl⟩; cases h
theorem isBrk_of {x : Stmt} (h : isBrk x = true) : ∃ p, x = .Break p := by unfold isBrk at h; split at h; exact ⟨_, rfl⟩; cases h
theorem isCnt_of {x : Stmt} (h : isCnt x = true) : ∃ p, x = .Continue p := by unfold isCnt at h; split at h; exact ⟨_, rfl⟩; cases h
theorem isRet0_of {x : Stmt} (h : isRet0 x = true) : ∃ p, x = .Return none p := by unfold isRet0 at h; split at h; exact ⟨_, rfl⟩; cases h
mutual
theorem sS (c : CtxS G S C Wx ea k X) : ∀ (a : CS) (x : Stmt), chkS G S fr a x = true → PS X x (tS C X.K Wx ea fr a)
  | .nev, x, _ => s_nev
  | .rais _ _, x, h => by simp only [chkS] at h; cases h
  | .pas, x, h => by simp only [chkS] at h; obtain ⟨p, rfl⟩ := isPas_of h; exact s_pas
  | .brk, x, h => by simp only [chkS] at h; obtain ⟨p, rfl⟩ := isBrk_of h; exact s_brk
  | .cnt, x, h => by simp only [chkS] at h; obtain ⟨p, rfl⟩ := isCnt_of h; exact s_cnt
  | .ret0, x, h => by simp only [chkS] at h; obtain ⟨p, rfl⟩ := isRet0_of h; exact s_ret0
  | .exp a, x, h => by simp only [chkS] at h; exact sExp G C ea k c h
  | .app o a, x, h => by simp only [chkS] at h; exact sApp G C ea k c h
  | .ext o a, x, h => by simp only [chkS] at h; exact sExt G C ea k c h
  | .asg t a, x, h => by simp only [chkS] at h; exact sAsg G C ea k c h
  | .aug i o a, x, h => by simp only [chkS] at h; exact sAug G C ea k c h
  | .ret a, x, h => by simp only [chkS] at h; exact sRet G C ea k c h
  | .retL a, x, h => by simp only [chkS] at h; exact sRetL G C ea k c h
  | .ife t a b, x, h => by
    cases x with
    | If u p q ps =>
      simp only [chkS, Bool.and_eq_true] at h
      exact s_ife (pT c.toCtx h.1.1.2 h.1.1.1) (sSs c a p h.1.2) (sSs c b q h.2)
    | _ => simp only [chkS] at h; cases h
  | .for_ t it b, x, h => by
    cases x with
    | For tg i body el ps =>
      cases el with
      | nil =>
        simp only [chkS, Bool.and_eq_true, Bool.or_eq_true, Bool.not_eq_true'] at h
        obtain ⟨⟨⟨h1, h2⟩, h3⟩, h4⟩ := h
        refine s_for c.pass c.calm (sI G C ea k it S Wx X _ _ c.toCtx h1 fun w => ?_) (sT G C ea k t S Wx Wx X _ c.toCtx h3) (sSs c b _ h4) (chkI_set h1)
        rcases h2 with q | q
        · rw [w] at q; cases q
        · exact q
      | cons _ _ => simp only [chkS] at h; cases h
    | _ => simp only [chkS] at h; cases h
  | .whl t b, x, h => by
    cases x with
    | While u body el ps =>
      cases el with
      | nil =>
        simp only [chkS, Bool.and_eq_true] at h
        exact s_whl c.pass (pT c.toCtx h.1.2 h.1.1) (sSs c b _ h.2)
      | cons _ _ => simp only [chkS] at h; cases h
    | _ => simp only [chkS] at h; cases h
theorem sSs (c : CtxS G S C Wx ea k X) : ∀ (a : CSs) (l : List Stmt), chkSs G S fr a l = true → PSs X l (tSs C X.K Wx ea fr a)
  | .nil, l, h => by
    simp only [chkSs, List.isEmpty_iff] at h
    subst h
    exact ss_nil
  | .cons a r, l, h => by
    cases l with
    | nil => simp only [chkSs] at h; cases h
    | cons x t =>
      simp only [chkSs, Bool.and_eq_true] at h
      exact ss_cons (sS c a x h.1) (sSs c r t h.2)
end
end
end Pv
end
section
set_option maxRecDepth 100000
set_option maxHeartbeats 4000000
namespace Pv
open PySem PySem.Spec PyProof.Rows L2
/-! ### leaving a def -/
section
variable {K : PySem.W.Frag} {H H' : Hp} {s : Sto} {ρ l av av' : List Addr} {p : Addr}
mutual
theorem fz_rep2 {g : Nat → D} {b : Nat} (tr : ∀ a xs, LstAt K ⟨ρ ++ l, av⟩ H a xs → LstAt K ⟨ρ, av'⟩ H a xs) (hg : ∀ m a, ρ.length ≤ m → m < b → (ρ ++ l)[m]? = some a → Rep K ⟨ρ, av'⟩ H (g m) (.ref a)) :
    ∀ (d : D) {v : V}, below b d = true → Rep K ⟨ρ ++ l, av⟩ H d v → Rep K ⟨ρ, av'⟩ H (fzD ρ.length g d) v
  | .non, _, _, h => by simpa [Rep, fzD] using h
  | .bl _, _, _, h => by simpa [Rep, fzD] using h
  | .int _, _, _, h => by simpa [Rep, fzD] using h
  | .str _, _, _, h => by simpa [Rep, fzD] using h
  | .tup ds, _, q, h => by
    simp only [below] at q
    simp only [Rep, fzD] at h ⊢
    obtain ⟨a, vs, e, t, r⟩ := h
    exact ⟨a, vs, e, t, fz_reps2 tr hg ds q r⟩
  | .lst ds, _, q, h => by
    simp only [below] at q
    simp only [Rep, fzD] at h ⊢
    obtain ⟨a, vs, e, t, r⟩ := h
    exact ⟨a, vs, e, tr _ _ t, fz_reps2 tr hg ds q r⟩
  | .loc m, _, q, h => by
    simp only [below, decide_eq_true_eq] at q
    simp only [Rep] at h
    obtain ⟨a, e, t⟩ := h
    subst e
    simp only [fzD]
    by_cases hm : m < ρ.length
    · rw [if_pos hm]
      rw [List.getElem?_append_left hm] at t
      simp only [Rep]
      exact ⟨a, rfl, t⟩
    · rw [if_neg hm]
      exact hg m a (by omega) q t
  | .dct _ _, _, _, h => by simp only [Rep] at h
  | .set _, _, _, h => by simp only [Rep] at h
theorem fz_reps2 {g : Nat → D} {b : Nat} (tr : ∀ a xs, LstAt K ⟨ρ ++ l, av⟩ H a xs → LstAt K ⟨ρ, av'⟩ H a xs) (hg : ∀ m a, ρ.length ≤ m → m < b → (ρ ++ l)[m]? = some a → Rep K ⟨ρ, av'⟩ H (g m) (.ref a)) :
    ∀ (ds : List D) {vs : List V}, belows b ds = true → Reps K ⟨ρ ++ l, av⟩ H ds vs → Reps K ⟨ρ, av'⟩ H (fzDs ρ.length g ds) vs
  | [], _, _, h => by simpa [Reps, fzDs] using h
  | d :: ds, _, q, h => by
    simp only [belows, Bool.and_eq_true] at q
    simp only [Reps, fzDs] at h ⊢
    obtain ⟨v, r, e, h1, h2⟩ := h
    exact ⟨v, r, e, fz_rep2 tr hg d q.1 h1, fz_reps2 tr hg ds q.2 h2⟩
end
theorem LstAt.cutTo {a : Addr} {xs : List V} (hp : p ∈ ρ ++ l) (h : LstAt K ⟨ρ ++ l, av⟩ H a xs) : LstAt K ⟨ρ, p :: av⟩ H a xs := by
  rcases h with ⟨h, n, m⟩ | h | h
  · refine .inl ⟨h, fun z => n (List.mem_append_left _ z), fun z => ?_⟩
    rcases List.mem_cons.mp z with z | z
    · subst z; exact n hp
    · exact m z
  · exact .inr (.inl h)
  · exact .inr (.inr h)
theorem fzL_rep2 {m0 : Nat} (R : RelSt K ⟨ρ ++ l, av⟩ s H) (h0 : (ρ ++ l)[m0]? = some p) : ∀ (k m : Nat) (a : Addr), ρ.length ≤ m → m < k → m < m0 → (ρ ++ l)[m]? = some a → Rep K ⟨ρ, p :: av⟩ H (fzL s ρ.length k m) (.ref a)
  | 0, _, _, _, h, _, _ => by omega
  | k + 1, m, a, h1, h2, h4, h3 => by
    obtain ⟨ds, vs, e1, e2, e3, e4⟩ := R.cell m a h3
    have hg : s.getD m .non = .lst ds := by rw [List.getD_eq_getElem?_getD, e1]; rfl
    unfold fzL
    rw [hg]
    simp only [fzD, Rep]
    refine ⟨a, vs, rfl, .inl ⟨e2, nodup_app R.nd h1 h3, fun q => ?_⟩, ?_⟩
    · rcases List.mem_cons.mp q with q | q
      · subst q
        have := nodup_at R.nd h3 h0
        omega
      · exact (R.avd a q).2 (List.mem_of_getElem? h3)
    · exact fz_reps2 (b := m) (fun _ _ => LstAt.cutTo (List.mem_of_getElem? h0)) (fun m' a' q1 q2 q3 => fzL_rep2 R h0 k m' a' q1 (by omega) (by omega) q3) ds e4 e3
/-- a cell of its own, handed out -/
theorem Own.out {m : Nat} (R : RelSt K ⟨ρ ++ l, av⟩ s H) (h0 : (ρ ++ l)[m]? = some p) (hm : ρ.length ≤ m) : ∃ ds vs, fz ρ.length s (.loc m) = .lst ds ∧ Own K ⟨ρ, av⟩ (s.take ρ.length) H p ds vs := by
  obtain ⟨ds, vs, e1, e2, e3, e4⟩ := R.cell m p h0
  have hs : m < s.length := (List.getElem?_eq_some_iff.mp e1).1
  have hg : s.getD m .non = .lst ds := by rw [List.getD_eq_getElem?_getD, e1]; rfl
  obtain ⟨k, hk⟩ : ∃ k, s.length = k + 1 := ⟨s.length - 1, by omega⟩
  have kp : Keeps K ⟨ρ ++ l, av⟩ H ⟨ρ, p :: av⟩ H ρ.length := ⟨fun _ _ q => q, fun _ _ q => q.cutTo (List.mem_of_getElem? h0), fun m b hm q => by
    have q : (ρ ++ l)[m]? = some b := q
    rw [List.getElem?_append_left hm] at q
    exact q⟩
  have hl := R.len
  simp only [List.length_append] at hl
  refine ⟨fzDs ρ.length (fzL s ρ.length k) ds, vs, ?_, e2, fun z => (R.avd p z).2 (List.mem_of_getElem? h0), ⟨?_, (List.nodup_append.mp R.nd).1, fun a q => ?_, fun n a h => ?_⟩, ?_⟩
  · unfold fz
    simp only [fzD]
    rw [if_neg (by omega), hk]
    simp only [fzL, hg, fzD]
  · show ρ.length = (s.take ρ.length).length
    rw [List.length_take]; omega
  · rcases List.mem_cons.mp q with q | q
    · subst q
      exact ⟨by rw [e2]; simp, nodup_app R.nd hm h0⟩
    · exact ⟨(R.avd a q).1, fun z => (R.avd a q).2 (List.mem_append_left _ z)⟩
  · have h : ρ[n]? = some a := h
    have hn : n < ρ.length := (List.getElem?_eq_some_iff.mp h).1
    have h' : (ρ ++ l)[n]? = some a := by rw [List.getElem?_append_left hn]; exact h
    obtain ⟨ds', vs', c1, c2, c3, c4⟩ := R.cell n a h'
    exact ⟨ds', vs', by rw [List.getElem?_take_of_lt hn]; exact c1, c2, Reps.by kp ds' (belows_mono (Nat.le_of_lt hn) ds' c4) c3, c4⟩
  · exact fz_reps2 (b := m) (fun _ _ => LstAt.cutTo (List.mem_of_getElem? h0)) (fun m' a' q1 q2 q3 => fzL_rep2 R h0 k m' a' q1 (by omega) (by omega) q3) ds e4 e3
theorem fzD_lst {n : Nat} {g : Nat → D} {d : D} {ds : List D} (h : fzD n g d = .lst ds) : (∃ es, d = .lst es ∧ ds = fzDs n g es) ∨ ∃ m, d = .loc m ∧ n ≤ m := by
  cases d with
  | lst es => simp only [fzD, D.lst.injEq] at h; exact .inl ⟨es, rfl, h.symm⟩
  | loc m =>
    simp only [fzD] at h
    split at h
    · cases h
    · exact .inr ⟨m, rfl, by omega⟩
  | _ => simp [fzD] at h
theorem Got.left {fr : Bool} {W W' : Wd} {s' : Sto} {d : D} {v : V} (g : Got K fr W H W' s' H' d v) (hl : fr = true → lowLoc W.rho.length d = false) :
    Got K fr W H W (s'.take W.rho.length) H' (fz W.rho.length s' d) v := by
  obtain ⟨ρ, av⟩ := W
  obtain ⟨ρ', av2⟩ := W'
  obtain ⟨l, e, hn⟩ := g.pres.ext
  have ea := g.pres.av
  simp only at e ea
  subst e ea
  refine ⟨g.pres.left, g.st.left, g.rep.left g.st, fun hf ds q => ?_⟩
  unfold fz at q
  rcases fzD_lst q with ⟨es, e1, e2⟩ | ⟨m, e1, hm⟩
  · subst e1 e2
    obtain ⟨p, vs, ev, np, o⟩ := g.own hf es rfl
    have R : RelSt K ⟨ρ ++ l, p :: av2⟩ s' H' := o.rel
    have r : Reps K ⟨ρ ++ l, p :: av2⟩ H' es vs := o.reps
    exact ⟨p, vs, ev, np, o.at_, o.nav, R.left, Reps.left R r⟩
  · subst e1
    have r := g.rep
    simp only [Rep] at r
    obtain ⟨p, ev, r⟩ := r
    obtain ⟨ds', vs, e3, o⟩ := Own.out g.st r hm
    unfold fz at e3
    rw [q] at e3
    cases e3
    refine ⟨p, vs, ev, ?_, o⟩
    simp only at hm
    rw [List.getElem?_append_right hm] at r
    exact hn p (List.mem_of_getElem? r)
end
/-! ### a def of the text -/
structure FI where
  i : Nat
  ps : List Str
  N : List Str
  fd : FD
def okN : Scope → List Str → List Str → Bool := fun sc N ps => (match sc.kind with
  | .function => true
  | _ => false) && !sc.isCoroutine && !sc.isGenerator && decide N.Nodup && decide (N.take ps.length = ps) && (ps.all fun x => locB sc x) && (sc.names.all fun y => match y.2 with
  | .free => false
  | _ => true)
def okF (G : GC) (fn : List He.DefD) (q : FI) (x : Str) : Bool :=
  match fn[q.i]? with
  | some d => decide (d.at_ = (x, none)) && d.dfl.isEmpty && d.kwd.isEmpty && okN d.scope q.N q.ps && decide (q.fd.np = q.ps.length) && decide (q.fd.nl = q.N.length) && chkSs G ⟨q.N, d.scope, none⟩ q.fd.fr q.fd.body d.body
  | none => false
/-- its arguments, one for each parameter -/
def BindA (params : Arguments) (ps : List Str) : Prop := ∀ (name qual : Str) (body : List Stmt) (scope : Scope) (kV doc pm : Value) (an : Option Addr) (cdv ct : Value) (us : List Value), us.length = ps.length →
  bindArgs (PySem.W.fnOf name qual params body scope .none kV doc pm an cdv ct) ⟨us, []⟩ = pure (ps.zip us)
theorem okN_of {sc : Scope} {N ps : List Str} (h : okN sc N ps = true) : FnScope N ps sc := by
  unfold okN at h
  simp only [Bool.and_eq_true, Bool.not_eq_true', decide_eq_true_eq, List.all_eq_true] at h
  obtain ⟨⟨⟨⟨⟨⟨h1, h2⟩, h3⟩, h4⟩, h5⟩, h6⟩, h7⟩ := h
  refine ⟨?_, h2, h3, h4, h5, fun x hx => loc_of (h6 x hx), fun y hy e => ?_⟩
  · split at h1
    · assumption
    · cases h1
  · have := h7 y hy
    rw [e] at this
    cases this
section
variable {P : Program} {w : World} {K : PySem.W.Frag} {mg : Str → Option Value} {base : Heap}
/-- what is known of the module: constants, built-in names -/
structure ModF (G : GC) (K : PySem.W.Frag) (mg : Str → Option Value) : Prop where
  cons : ∀ x d, consB G x d = true → ∃ u v, mg x = some u ∧ RelV v u ∧ ∀ W H, Rep K W H d v
  free : ∀ x, G.free.contains x = true → mg x = none
  mods : ∀ b, G.mods.contains (biName b) = true → mg (biName b) = some (biVal b)
def clN (fs : List FD) (n : Nat) : Cl := ⟨callN fs n, fun _ => .bad⟩
/-- every def keeps its promise, to the depth n -/
def AllOk (G : GC) (fs : List FD) (P : Program) (w : World) (K : PySem.W.Frag) (mg : Str → Option Value) (base : Heap) (ea : Nat → Addr) (n : Nat) : Prop :=
  ∀ f x, G.fns[f]? = some x → ∃ fa fd ps, mg x = some (.ref fa) ∧ PySem.W.keepIn K (.ref fa) = true ∧ Binds K fd ps [] ∧
    FnOk P w K mg base (L2.CX P w) n fa fd ps (spD (clN fs n) K ea (frOf G f) f ps.length) ∧ ∀ th ds s, ds.length ≠ ps.length → (clN fs n).fn f th ds s = .bad
theorem FunD.uniq {x x' q q' : Str} {p p' : Arguments} {b b' : List Stmt} {s s' : Scope} {d d' : List V} {e e' : List (Str × V)} {f : Addr} {fd fd' : FuncData} (F : FunD K x q p b s d e f fd) (F' : FunD K x' q' p' b' s' d' e' f fd') : fd = fd' := by
  obtain ⟨oc, od, dV, kV, doc, pm, an, cdv, ct, osl, e1, lk, _⟩ := F.ex
  obtain ⟨oc2, od2, dV2, kV2, doc2, pm2, an2, cdv2, ct2, osl2, e2, lk2, _⟩ := F'.ex
  rw [lk] at lk2
  cases lk2
  rfl
theorem leave_sat {ea : Nat → Addr} {fr : Bool} {W : Wd} {H : Hp} {s : Sto} {args : List D} {vs : List V} {Q : VK} {E : XK} {fd : FD} {C : Cl} {N : List Str} (hC : fd.nl = N.length) (R : RelSt K W s H) (r : Reps K W H args vs) (hfr : fd.fr = fr) (hle : fd.np ≤ N.length)
    (h : SatF K ea fr W H Q E (runF C fd args s)) : tSs C K (fun cls d _ H => E cls d H) ea fr fd.body { nx := fun _ H' => Q .non H', rt := Q } (L2.start N vs) H := by
  unfold runF at h
  split at h
  case isFalse => exact h.elim
  rename_i hlen
  have hl := r.length
  have hs : W.rho.length = s.length := R.len
  refine ⟨W, args.map some ++ List.replicate (fd.nl - fd.np) none, s, R, ⟨?_, fun i d q => ?_⟩, ?_⟩
  · unfold L2.start
    simp only [List.length_append, List.length_map, List.length_replicate]
    omega
  · by_cases hi : i < args.length
    · rw [List.getElem?_append_left (by simpa using hi), List.getElem?_map] at q
      cases e : args[i]? with
      | none => rw [e] at q; cases q
      | some d' =>
        rw [e] at q
        cases q
        obtain ⟨v, ev, rv⟩ := r.get e
        refine ⟨v, ?_, rv⟩
        unfold L2.start
        rw [List.getElem?_append_left (by simpa [← hl] using hi), List.getElem?_map, ev]
        rfl
    · rw [List.getElem?_append_right (by simpa using hi), List.getElem?_replicate] at q
      split at q <;> cases q
  · cases q : evSs C fd.body (args.map some ++ List.replicate (fd.nl - fd.np) none) s with
    | nx e1 s1 =>
      rw [q] at h
      simp only [leave] at h
      intro W' H' σ' g
      have g0 : Got K fr W H W' s1 H' .non .non := ⟨g.1, g.2.1, rfl, fun _ ds z => nomatch z⟩
      have gl := g0.left (fun _ => rfl)
      rw [hs] at gl
      exact h H' .non gl
    | ret d s1 =>
      rw [q] at h
      simp only at h
      split at h
      case isTrue => exact h.elim
      rename_i hlow
      simp only [leave] at h
      intro W' H' v g
      have gl := g.left (fun z => by
        rw [hs]
        rw [hfr, z, Bool.true_and] at hlow
        exact Bool.eq_false_iff.mpr hlow)
      rw [hs] at gl
      exact h H' v gl
    | exc k v e1 s1 =>
      rw [q] at h
      simp only at h
      refine ⟨h.1, fun W' H' σ' g => ?_⟩
      have g0 : Got K fr W H W' s1 H' .non .non := ⟨g.1, g.2.1, rfl, fun _ ds z => nomatch z⟩
      have gl := g0.left (fun _ => rfl)
      rw [hs] at gl
      exact h.2 H' gl.pres gl.st
    | brk _ _ => rw [q] at h; exact h.elim
    | cnt _ _ => rw [q] at h; exact h.elim
    | bad => rw [q] at h; exact h.elim
theorem callN_len {fs : List FD} {n f : Nat} {fd : FD} {th : Sto → Out D} {ds : List D} {s : Sto} (h : fs[f]? = some fd) (hl : ds.length ≠ fd.np) : callN fs n f th ds s = .bad := by
  cases n with
  | zero => rfl
  | succ n =>
    simp only [callN, h]
    unfold runF
    rw [if_neg hl]
theorem one_ok {fn : List He.DefD} {fa : List He.Fa} {h : Heap} {G : GC} {fis : List FI} (c : He.SaysD fa fn K) (X : K.In h) (Gm : h.Ns mainGlobals mg) (M : ModF G K mg)
    (hall : ∀ f x, G.fns[f]? = some x → He.Fa.glo x ∈ fa ∧ ∃ q, fis[f]? = some q ∧ okF G fn q x = true ∧ frOf G f = q.fd.fr ∧ ∀ d, fn[q.i]? = some d → BindA d.params q.ps) :
    ∀ f x, G.fns[f]? = some x → ∃ (q : FI) (d : He.DefD) (fdd : FuncData), fis[f]? = some q ∧ frOf G f = q.fd.fr ∧ mg x = some (.ref (He.ga K x)) ∧ PySem.W.keepIn K (.ref (He.ga K x)) = true ∧ Binds K fdd q.ps [] ∧ FnScope q.N q.ps d.scope ∧
      FunD K d.name d.qual d.params d.body d.scope [] [] (He.ga K x) fdd ∧ q.fd.np = q.ps.length ∧ q.fd.nl = q.N.length ∧ fn[q.i]? = some d ∧ BindA d.params q.ps ∧ chkSs G ⟨q.N, d.scope, none⟩ q.fd.fr q.fd.body d.body = true := by
  intro f x hf
  obtain ⟨hg, q, hq, ho, hfr, hb⟩ := hall f x hf
  unfold okF at ho
  split at ho
  case h_2 => cases ho
  rename_i d hd
  simp only [Bool.and_eq_true, decide_eq_true_eq, List.isEmpty_iff] at ho
  obtain ⟨⟨⟨⟨⟨⟨h1, h2⟩, h3⟩, h4⟩, h5⟩, h6⟩, h7⟩ := ho
  obtain ⟨fdd, F⟩ := c.def_ q.i (d := d) hd
  have e1 : d.dvs K = [] := by unfold He.DefD.dvs; rw [h2]; rfl
  have e2 : d.kws K = [] := by unfold He.DefD.kws; rw [h3]; rfl
  have e3 : He.fAd K d.at_ = He.ga K x := by rw [h1]; rfl
  rw [e1, e2, e3] at F
  obtain ⟨j, hj, ej⟩ := List.mem_iff_getElem.mp hg
  have gl := He.glo_ok X Gm (c.fact j (f := .glo x) (by rw [List.getElem?_eq_getElem hj, ej]))
  exact ⟨q, d, fdd, hq, hfr, gl, F.kp, F.bindsN fun kV doc pm an cdv ct us hl => hb d hd d.name d.qual d.body d.scope kV doc pm an cdv ct us hl, okN_of h4, F, h5, h6, hd, hb d hd, h7⟩
theorem fn_ok {fn : List He.DefD} {fa : List He.Fa} {h : Heap} {G : GC} {fis : List FI} {ea : Nat → Addr} (c : He.SaysD fa fn K) (X : K.In h) (Gm : h.Ns mainGlobals mg) (M : ModF G K mg)
    (hall : ∀ f x, G.fns[f]? = some x → He.Fa.glo x ∈ fa ∧ ∃ q, fis[f]? = some q ∧ okF G fn q x = true ∧ frOf G f = q.fd.fr ∧ ∀ d, fn[q.i]? = some d → BindA d.params q.ps) :
    ∀ (n f : Nat) (x : Str) (q : FI) (d : He.DefD) (fdd : FuncData), G.fns[f]? = some x → fis[f]? = some q → fn[q.i]? = some d → FunD K d.name d.qual d.params d.body d.scope [] [] (He.ga K x) fdd →
      FnOk P w K mg base (L2.CX P w) n (He.ga K x) fdd q.ps (spD (clN (fis.map FI.fd) n) K ea (frOf G f) f q.ps.length) := by
  have lens : ∀ f x q, G.fns[f]? = some x → fis[f]? = some q → q.fd.np = q.ps.length → ∀ n th ds s, ds.length ≠ q.ps.length → (clN (fis.map FI.fd) n).fn f th ds s = .bad := fun f x q hf hq h5 n th ds s hl =>
    callN_len (fd := q.fd) (by rw [List.getElem?_map, hq]; rfl) (by rw [h5]; exact hl)
  intro n
  induction n with
  | zero =>
    intro f x q d fdd hf hq hd F
    refine ⟨fun vs H Q E w => ?_, fun A outer s H args us vs Q E hr e0 hb hv hs => ?_⟩
    · obtain ⟨W, s, ds, R, r, hl, w⟩ := w
      exact w.elim
    · obtain ⟨W, s, ds, R, r, hl, w⟩ := hs
      exact w.elim
  | succ n ih =>
    have al : AllOk G (fis.map FI.fd) P w K mg base ea n := fun f x hf => by
      obtain ⟨q, d, fdd, hq, hfr, gl, kp, B, S, F, h5, h6, hd, hb, h7⟩ := one_ok c X Gm M hall f x hf
      exact ⟨_, fdd, q.ps, gl, kp, B, ih f x q d fdd hf hq hd F, lens f x q hf hq h5 n⟩
    intro f x q d fdd hf hq hd F
    obtain ⟨q', d', fdd', hq', hfr, gl, kp, B, S, F', h5, h6, hd', hb, h7⟩ := one_ok c X Gm M hall f x hf
    rw [hq] at hq'
    cases hq'
    rw [hd] at hd'
    cases hd'
    cases FunD.uniq F F'
    refine F.ok S (fun vs H Q E w => ?_) fun cdv A outer s H vs Q E hr hsp => ?_
    · obtain ⟨W, s, ds, R, r, hl, w⟩ := w
      rw [← r.length]; exact hl
    · obtain ⟨W, st, ds, R, r, hl, hq2⟩ := hsp
      have ef : (fis.map FI.fd)[f]? = some q.fd := by rw [List.getElem?_map, hq]; rfl
      refine ⟨tSs (clN (fis.map FI.fd) n) K (fun cls d _ H => E cls d H) ea q.fd.fr q.fd.body, ?_, ?_⟩
      · have CC : CtxS G ⟨q.N, d.scope, none⟩ (clN (fis.map FI.fd) n) (fun cls d _ H => E cls d H) ea n (cxOf (L2.CX P w) P w K mg base q.N d.qual d.scope (He.ga K x) cdv A outer s H E) :=
          ⟨⟨rfl, S.nd, rfl, rfl, hr, takes_of rfl rfl rfl rfl, fun y hy => .inl rfl, M.cons, M.free, M.mods, al⟩, passes_of rfl⟩
        exact sSs (fr := q.fd.fr) G (clN (fis.map FI.fd) n) ea n CC q.fd.body d.body h7
      · have hle : q.fd.np ≤ q.N.length := by
          have := congrArg List.length S.pre
          rw [List.length_take] at this
          omega
        refine leave_sat (C := clN (fis.map FI.fd) n) (args := ds) h6 R r rfl hle ?_
        have e : (clN (fis.map FI.fd) (n + 1)).fn f (fun _ => .bad) ds st = runF (clN (fis.map FI.fd) n) q.fd ds st := by
          show callN (fis.map FI.fd) (n + 1) f _ ds st = _
          simp only [callN, ef]
          rfl
        rw [e] at hq2
        rw [← hfr]
        exact hq2
/-! ### a law -/
theorem sq_lst {H : Hp} {a : Addr} {xs : List V} (h : SqL K H a xs) : LstAt K ⟨[], []⟩ H a xs := by
  rcases h with (h | ⟨o, h⟩) | h
  · exact .inl ⟨h, by simp, by simp⟩
  · exact .inr (.inl ⟨o, h⟩)
  · exact .inr (.inr h)
theorem repsI {W : Wd} {H : Hp} : ∀ ns : List Int, Reps K W H (ns.map D.int) (ns.map V.int)
  | [] => rfl
  | n :: r => ⟨.int n, r.map V.int, rfl, rfl, repsI r⟩
/-- what a def may let out, of any world -/
def CXe : CXT := fun outer H s E u s' => ∃ P w, L2.CX P w outer H s E u s'
theorem fn_cx {k : Nat} {f : Addr} {fd : FuncData} {ps : List Str} {sp : Sp} (F : FnOk P w K mg base (L2.CX P w) k f fd ps sp) : FnOk P w K mg base CXe k f fd ps sp :=
  ⟨F.len, fun A outer s H args us vs Q E hr e0 hb hv hs => codeAny_mono (F.run A outer s H args us vs Q E hr e0 hb hv hs) fun r s' hq => by
    cases r with
    | error e => exact ⟨P, w, hq⟩
    | ok fl => cases fl <;> exact hq⟩
theorem law_end {l : PySem.W.OpenLaw} {fn : List He.DefD} {fa : List He.Fa} {h : Heap} {G : GC} {fis : List FI} (c : He.SaysD fa fn K) (X : K.In h) (Gm : h.Ns mainGlobals mg) (M : ModF G K mg)
    (hall : ∀ f x, G.fns[f]? = some x → He.Fa.glo x ∈ fa ∧ ∃ q, fis[f]? = some q ∧ okF G fn q x = true ∧ frOf G f = q.fd.fr ∧ ∀ d, fn[q.i]? = some d → BindA d.params q.ps)
    {n k li : Nat} {x : Str} {fl : Addr} (hli : G.fns[li]? = some x) (hfl : mg x = some (.ref fl)) (hps : (fis[li]?).map FI.ps = some [("script" : Str)])
    (hrun : ∀ ns : List Int, ns.length ≤ n → ∃ s', callN (fis.map FI.fd) k li (fun _ => .bad) [.lst (ns.map D.int)] [] = .ok (.bl true) s') :
    ∃ (K' : PySem.W.Frag) (fd : FuncData) (sp : Sp), K'.In h ∧ (∀ (s : Shared) (u : Value), BindsTo s fd ⟨[u], []⟩ [("script", u)]) ∧
        (∀ (H : Hp) (a : Addr) (ns : List Int), ns.length ≤ n → Only H → SqL K' H a (ns.map V.int) → sp [.ref a] H (fun v _ => v = .bl true) fun _ _ _ => False) ∧
        ∀ base : Heap, K'.In base → base.Ns mainGlobals mg → FnOk l.prog w K' mg base CXe k fl fd ["script"] sp := by
  obtain ⟨q, d, fdd, hq, hfr, gl, kp, B, S, F, h5, h6, hd, hb, h7⟩ := one_ok c X Gm M hall li x hli
  rw [hfl] at gl
  cases gl
  rw [hq] at hps
  have hps : q.ps = [("script" : Str)] := Option.some.inj hps
  refine ⟨K, fdd, spD (clN (fis.map FI.fd) k) K (fun _ => 0) (frOf G li) li q.ps.length, X, fun s u => ?_, fun H a ns hl _ hS => ?_, fun base hB _ => ?_⟩
  · have := F.bindsA (ps := q.ps) (fun kV doc pm an cdv ct us hl => hb d.name d.qual d.body d.scope kV doc pm an cdv ct us hl) s [u] (by rw [hps]; rfl)
    rw [hps] at this
    exact this
  · refine ⟨⟨[], []⟩, [], [.lst (ns.map D.int)], ⟨rfl, by simp, by simp, by simp⟩, ⟨.ref a, [], rfl, ?_, rfl⟩, by rw [hps]; rfl, ?_⟩
    · simp only [Rep]
      exact ⟨a, _, rfl, sq_lst hS, repsI ns⟩
    · obtain ⟨s', e⟩ := hrun ns hl
      have e : (clN (fis.map FI.fd) k).fn li (fun _ => .bad) [.lst (ns.map D.int)] [] = .ok (.bl true) s' := e
      rw [e]
      exact fun H' v g => g.rep
  · have := fn_ok (P := l.prog) (w := w) (base := base) (ea := fun _ => 0) c X Gm M hall k li x q d fdd hli hq hd F
    rw [hps] at this ⊢
    exact fn_cx this
end
end Pv
end
section
set_option maxRecDepth 100000
set_option maxHeartbeats 4000000
namespace Pv
open PySem PySem.Spec PyProof.Rows L2
/-! ### one check of it all -/
def faGlo (fa : List He.Fa) (x : Str) : Bool := fa.any fun f => match f with
  | .glo y => decide (y = x)
  | _ => false
def faFree (fa : List He.Fa) (x : Str) : Bool := fa.any fun f => match f with
  | .free y => decide (y = x)
  | _ => false
def faInt (fa : List He.Fa) (x : Str) (d : D) : Bool := fa.any fun f => match f with
  | .int y i => decide (y = x) && same d (.int i)
  | _ => false
def okAll (G : GC) (fn : List He.DefD) (fa : List He.Fa) (fis : List FI) : Bool :=
  decide (fis.length = G.fns.length) && ((List.range G.fns.length).all fun f => match G.fns[f]?, fis[f]? with
    | some x, some q => faGlo fa x && okF G fn q x && (frOf G f == q.fd.fr)
    | _, _ => false) && (G.free.all fun x => faFree fa x) && (G.cons.all fun p => faInt fa p.1 p.2) && G.mods.isEmpty
theorem faGlo_of {fa : List He.Fa} {x : Str} (h : faGlo fa x = true) : He.Fa.glo x ∈ fa := by
  unfold faGlo at h
  obtain ⟨f, hf, e⟩ := List.any_eq_true.mp h
  split at e
  · have := of_decide_eq_true e
    subst this
    exact hf
  · cases e
theorem fa_ok {K : PySem.W.Frag} {fn : List He.DefD} {fa : List He.Fa} (c : He.SaysD fa fn K) {f : He.Fa} (h : f ∈ fa) : f.ok K = true := by
  obtain ⟨j, hj, ej⟩ := List.mem_iff_getElem.mp h
  exact c.fact j (f := f) (by rw [List.getElem?_eq_getElem hj, ej])
theorem modF_of {K : PySem.W.Frag} {mg : Str → Option Value} {h : Heap} {G : GC} {fn : List He.DefD} {fa : List He.Fa} {fis : List FI} (c : He.SaysD fa fn K) (X : K.In h) (Gm : h.Ns mainGlobals mg) (ok : okAll G fn fa fis = true) : ModF G K mg := by
  unfold okAll at ok
  simp only [Bool.and_eq_true, List.all_eq_true] at ok
  obtain ⟨⟨⟨⟨h1, h2⟩, h3⟩, h4⟩, h5⟩ := ok
  refine ⟨fun x d hc => ?_, fun x hx => ?_, fun b hb => ?_⟩
  · unfold consB at hc
    obtain ⟨p, hp, e⟩ := List.any_eq_true.mp hc
    simp only [Bool.and_eq_true, decide_eq_true_eq] at e
    obtain ⟨e1, e2⟩ := e
    have e3 := same_eq _ _ e2
    have q := h4 p hp
    unfold faInt at q
    obtain ⟨f, hf, e⟩ := List.any_eq_true.mp q
    split at e
    · rename_i y i
      simp only [Bool.and_eq_true, decide_eq_true_eq] at e
      obtain ⟨e4, e5⟩ := e
      have e6 := same_eq _ _ e5
      obtain ⟨t, g⟩ := He.int_ok X Gm (fa_ok c hf)
      rw [e4, e1] at g
      rw [e3] at e6
      subst e6
      exact ⟨.int i t, .int i, g, ⟨t, rfl⟩, fun _ _ => rfl⟩
    · cases e
  · have hx := h3 x (List.contains_iff_mem.mp hx)
    unfold faFree at hx
    obtain ⟨f, hf, e⟩ := List.any_eq_true.mp hx
    split at e
    · have := of_decide_eq_true e
      subst this
      exact He.free_ok X Gm (fa_ok c hf)
    · cases e
  · rw [List.isEmpty_iff.mp h5] at hb
    simp at hb
theorem all_of {G : GC} {fn : List He.DefD} {fa : List He.Fa} {fis : List FI} (ok : okAll G fn fa fis = true) (hb : ∀ q ∈ fis, ∀ d, fn[q.i]? = some d → BindA d.params q.ps) :
    ∀ f x, G.fns[f]? = some x → He.Fa.glo x ∈ fa ∧ ∃ q, fis[f]? = some q ∧ okF G fn q x = true ∧ frOf G f = q.fd.fr ∧ ∀ d, fn[q.i]? = some d → BindA d.params q.ps := by
  unfold okAll at ok
  simp only [Bool.and_eq_true, List.all_eq_true] at ok
  obtain ⟨⟨⟨⟨h1, h2⟩, h3⟩, h4⟩, h5⟩ := ok
  intro f x hf
  have hlt := (List.getElem?_eq_some_iff.mp hf).1
  have q := h2 f (List.mem_range.mpr hlt)
  rw [hf] at q
  split at q
  · rename_i x' q' e1 e2
    cases e1
    simp only [Bool.and_eq_true] at q
    exact ⟨faGlo_of q.1.1, q', e2, q.1.2, eq_of_beq q.2, hb q' (List.mem_of_getElem? e2)⟩
  · cases q
/-- how the arguments of a def at a place are bound -/
def BindI (fn : List He.DefD) (i : Nat) (ps : List Str) : Prop := ∀ d, fn[i]? = some d → BindA d.params ps
theorem cx_end : ∀ (H : Hp) (s : Shared) (e : Value) (s' : Shared), CXe [] H s (fun _ _ _ => False) e s' → False := fun _ _ _ _ ⟨_, _, _, _, _, _, _, _, _, _, _, _, _, _, z⟩ => z
end Pv
end
section
set_option maxRecDepth 100000
set_option maxHeartbeats 0
namespace LawTop
open PySem PySem.Spec PyProof.Rows L2
abbrev PR : PySem.Program := PySem.Challenge.pw_blendhouse_k60_swaps_there_and_back
abbrev R : PySem.W.OpenRow := PySem.W.OpenLaw.row PySem.Challenge.rw_blendhouse_k60_swaps_there_and_back
def mkD : PySem.Stmt → Option He.DefD
  | .FunctionDef n a b _ _ _ sc _ _ _ => some ⟨(n, none), n, n, a, b, sc, [], []⟩
  | _ => none
def fn : List He.DefD := PR.main.body.filterMap mkD
def lo0 : List PySem.Str := ["BlendError", "InvalidMoves", "InvalidShape", "is_whole", "is_tuple_of", "are_wholes", "SIDE", "MOST", "LONG", "is_grid", "need_grid", "margins_of", "margins", "is_swap", "can_swap", "after_swap", "swapped", "need_alike", "swap_for", "swaps_between", "takes_swaps", "_law_cup", "_law_roll", "_law_some", "_law_like", "_law_done", "_law_drawn", "_law_far", "_law_back", "_law_leads", "_law_right"]
def loose : List PySem.Str := lo0
def fa0 : List He.Fa := [.glo "is_whole", .glo "is_tuple_of", .glo "are_wholes", .glo "is_grid", .glo "need_grid", .glo "margins_of", .glo "margins", .glo "is_swap", .glo "can_swap", .glo "after_swap", .glo "swapped", .glo "need_alike", .glo "swap_for", .glo "swaps_between", .glo "takes_swaps", .glo "_law_cup", .glo "_law_roll", .glo "_law_some", .glo "_law_like", .glo "_law_done", .glo "_law_drawn", .glo "_law_far", .glo "_law_back", .glo "_law_leads", .glo "_law_right", .glo "law", .free "ValueError", .free "abs", .free "all", .free "bool"]
def fa1 : List He.Fa := [.free "int", .free "isinstance", .free "len", .free "list", .free "min", .free "range", .free "sum", .free "tuple", .free "zip", .exc "BlendError", .exc "InvalidMoves", .exc "InvalidShape", .int "SIDE" (5), .int "MOST" (9), .int "LONG" (2000)]
def fa : List He.Fa := fa0 ++ fa1
abbrev hk : PySem.W.Hook := He.hookD 4 fa fn
def ob (s : PySem.W.SharedT) : He.AlD := He.obsDG 4 fa fn (HandSHeadRun.getT s)
theorem ob_eq (s : PySem.W.SharedT) : ob s = hk.obs s.abs := He.obsDG_eq (HandSHeadRun.getT_eq s)
theorem run (w : World) : HandSHeadRun.RunEq R (PySem.W.view R.prog [35]) hk ob 6000 loose w := by
  intro os
  kernel_rfl
end LawTop
end
section
set_option maxRecDepth 100000
set_option maxHeartbeats 0
namespace LawTop
open PySem PySem.Spec PyProof.Rows L2 Pv
def dD : He.DefD := ⟨("", none), "", "", ⟨[], [], none, [], [], none, []⟩, [], ⟨.function, [], false, false, []⟩, [], []⟩
def b_is_whole : CSs := (.cons (.ret (.and (.isi (.var 0) .int) (.and (.not (.isi (.var 0) .bool)) (.chn .le .le (.var 1) (.var 0) (.var 2))))) .nil)
def q_is_whole : FI := ⟨0, ["value", "low", "high"], ["value", "low", "high"], ⟨3, 3, false, b_is_whole⟩⟩
def b_is_tuple_of : CSs := (.cons (.ret (.and (.isi (.var 0) .tuple) (.chn .le .le (.var 1) (.bi .len (.cons (.var 0) .nil)) (.var 2)))) .nil)
def q_is_tuple_of : FI := ⟨1, ["value", "low", "high"], ["value", "low", "high"], ⟨3, 3, false, b_is_tuple_of⟩⟩
def b_are_wholes : CSs := (.cons (.ret (.and (.call 1 (.cons (.var 0) (.cons (.var 1) (.cons (.var 1) .nil)))) (.bi .all (.cons (.comp [("one", 4)] (.nm 4) (.of (.var 0)) .nil (.call 0 (.cons (.var 4) (.cons (.var 2) (.cons (.var 3) .nil))))) .nil)))) .nil)
def q_are_wholes : FI := ⟨2, ["value", "many", "low", "high"], ["value", "many", "low", "high", "one"], ⟨4, 5, false, b_are_wholes⟩⟩
def b_is_grid : CSs := (.cons (.ife (.or (.not (.call 1 (.cons (.var 0) (.cons (.lit (.int 2)) (.cons (.glo "SIDE" (.int 5)) .nil))))) (.not (.call 1 (.cons (.idx (.var 0) (.lit (.int 0))) (.cons (.lit (.int 2)) (.cons (.glo "SIDE" (.int 5)) .nil)))))) (.cons (.ret (.lit (.bl false))) .nil) .nil) (.cons (.ret (.bi .all (.cons (.comp [("row", 1)] (.nm 1) (.of (.var 0)) .nil (.call 2 (.cons (.var 1) (.cons (.bi .len (.cons (.idx (.var 0) (.lit (.int 0))) .nil)) (.cons (.lit (.int 0)) (.cons (.glo "MOST" (.int 9)) .nil)))))) .nil))) .nil))
def q_is_grid : FI := ⟨3, ["value"], ["value", "row"], ⟨1, 2, false, b_is_grid⟩⟩
def b_need_grid : CSs := (.cons (.ife (.not (.call 3 (.cons (.var 0) .nil))) (.cons .nev .nil) .nil) .nil)
def q_need_grid : FI := ⟨4, ["grid"], ["grid"], ⟨1, 1, false, b_need_grid⟩⟩
def b_margins_of : CSs := (.cons (.asg (.nm 1) (.comp [("at", 2)] (.nm 2) (.range (.cons (.bi .len (.cons (.idx (.var 0) (.lit (.int 0))) .nil)) .nil)) .nil (.bi .sum (.cons (.comp [("row", 3)] (.nm 3) (.of (.var 0)) .nil (.idx (.var 3) (.var 2))) .nil)))) (.cons (.ret (.tup (.cons (.bi .tuple (.cons (.comp [("row", 3)] (.nm 3) (.of (.var 0)) .nil (.bi .sum (.cons (.var 3) .nil))) .nil)) (.cons (.bi .tuple (.cons (.var 1) .nil)) .nil)))) .nil))
def q_margins_of : FI := ⟨5, ["grid"], ["grid", "columns", "at", "row"], ⟨1, 4, false, b_margins_of⟩⟩
def b_margins : CSs := (.cons (.exp (.call 4 (.cons (.var 0) .nil))) (.cons (.ret (.call 5 (.cons (.var 0) .nil))) .nil))
def q_margins : FI := ⟨6, ["grid"], ["grid"], ⟨1, 1, false, b_margins⟩⟩
def b_is_swap : CSs := (.cons (.ife (.not (.call 2 (.cons (.var 1) (.cons (.lit (.int 4)) (.cons (.lit (.int 0)) (.cons (.bin .sub (.glo "SIDE" (.int 5)) (.lit (.int 1))) .nil)))))) (.cons (.ret (.lit (.bl false))) .nil) .nil) (.cons (.asg (.tp (.cons (.nm 2) (.cons (.nm 3) (.cons (.nm 4) (.cons (.nm 5) .nil))))) (.var 1)) (.cons (.ret (.and (.chn .lt .lt (.var 2) (.var 3) (.bi .len (.cons (.var 0) .nil))) (.and (.cmp .ne (.var 4) (.var 5)) (.and (.cmp .lt (.var 4) (.bi .len (.cons (.idx (.var 0) (.lit (.int 0))) .nil))) (.cmp .lt (.var 5) (.bi .len (.cons (.idx (.var 0) (.lit (.int 0))) .nil))))))) .nil)))
def q_is_swap : FI := ⟨7, ["grid", "value"], ["grid", "value", "r", "s", "c", "d"], ⟨2, 6, false, b_is_swap⟩⟩
def b_can_swap : CSs := (.cons (.asg (.tp (.cons (.nm 2) (.cons (.nm 3) (.cons (.nm 4) (.cons (.nm 5) .nil))))) (.var 1)) (.cons (.ret (.and (.cmp .gt (.idx (.idx (.var 0) (.var 2)) (.var 5)) (.lit (.int 0))) (.cmp .gt (.idx (.idx (.var 0) (.var 3)) (.var 4)) (.lit (.int 0))))) .nil))
def q_can_swap : FI := ⟨8, ["grid", "swap"], ["grid", "swap", "r", "s", "c", "d"], ⟨2, 6, false, b_can_swap⟩⟩
def b_after_swap : CSs := (.cons (.asg (.tp (.cons (.nm 3) (.cons (.nm 4) (.cons (.nm 5) (.cons (.nm 6) .nil))))) (.var 1)) (.cons (.asg (.nm 2) (.thaw (.comp [("row", 7)] (.nm 7) (.of (.var 0)) .nil (.thaw (.bi .list (.cons (.var 7) .nil)))))) (.cons (.asg (.sub (.idx (.var 2) (.var 3)) (.var 5)) (.bin .add (.idx (.idx (.var 2) (.var 3)) (.var 5)) (.lit (.int 1)))) (.cons (.asg (.sub (.idx (.var 2) (.var 4)) (.var 6)) (.bin .add (.idx (.idx (.var 2) (.var 4)) (.var 6)) (.lit (.int 1)))) (.cons (.asg (.sub (.idx (.var 2) (.var 3)) (.var 6)) (.bin .sub (.idx (.idx (.var 2) (.var 3)) (.var 6)) (.lit (.int 1)))) (.cons (.asg (.sub (.idx (.var 2) (.var 4)) (.var 5)) (.bin .sub (.idx (.idx (.var 2) (.var 4)) (.var 5)) (.lit (.int 1)))) (.cons (.ret (.bi .tuple (.cons (.comp [("line", 8)] (.nm 8) (.of (.var 2)) .nil (.bi .tuple (.cons (.var 8) .nil))) .nil))) .nil)))))))
def q_after_swap : FI := ⟨9, ["grid", "swap"], ["grid", "swap", "lines", "r", "s", "c", "d", "row", "line"], ⟨2, 9, false, b_after_swap⟩⟩
def b_swapped : CSs := (.cons (.exp (.call 4 (.cons (.var 0) .nil))) (.cons (.ife (.or (.not (.call 7 (.cons (.var 0) (.cons (.var 1) .nil)))) (.not (.call 8 (.cons (.var 0) (.cons (.var 1) .nil))))) (.cons .nev .nil) .nil) (.cons (.ret (.call 9 (.cons (.var 0) (.cons (.var 1) .nil)))) .nil)))
def q_swapped : FI := ⟨10, ["grid", "swap"], ["grid", "swap"], ⟨2, 2, false, b_swapped⟩⟩
def b_need_alike : CSs := (.cons (.exp (.call 4 (.cons (.var 0) .nil))) (.cons (.exp (.call 4 (.cons (.var 1) .nil))) (.cons (.ife (.cmp .ne (.call 5 (.cons (.var 0) .nil)) (.call 5 (.cons (.var 1) .nil))) (.cons .nev .nil) .nil) .nil)))
def q_need_alike : FI := ⟨11, ["grid", "second"], ["grid", "second"], ⟨2, 2, false, b_need_alike⟩⟩
def b_swap_for : CSs := (.cons (.asg (.nm 2) (.bi .len (.cons (.idx (.var 0) (.lit (.int 0))) .nil))) (.cons (.for_ (.nm 3) (.range (.cons (.bi .len (.cons (.var 0) .nil)) .nil)) (.cons (.for_ (.nm 4) (.range (.cons (.var 2) .nil)) (.cons (.ife (.cmp .gt (.idx (.idx (.var 0) (.var 3)) (.var 4)) (.idx (.idx (.var 1) (.var 3)) (.var 4))) (.cons (.asg (.nm 5) (.idx (.comp [("at", 7)] (.nm 7) (.range (.cons (.var 2) .nil)) (.cons (.cmp .lt (.idx (.idx (.var 0) (.var 3)) (.var 7)) (.idx (.idx (.var 1) (.var 3)) (.var 7))) .nil) (.var 7)) (.lit (.int 0)))) (.cons (.asg (.nm 6) (.idx (.comp [("at", 7)] (.nm 7) (.range (.cons (.bi .len (.cons (.var 0) .nil)) .nil)) (.cons (.cmp .gt (.idx (.idx (.var 0) (.var 7)) (.var 5)) (.idx (.idx (.var 1) (.var 7)) (.var 5))) .nil) (.var 7)) (.lit (.int 0)))) (.cons (.ret (.ite (.cmp .lt (.var 3) (.var 6)) (.tup (.cons (.var 3) (.cons (.var 6) (.cons (.var 5) (.cons (.var 4) .nil))))) (.tup (.cons (.var 6) (.cons (.var 3) (.cons (.var 4) (.cons (.var 5) .nil))))))) .nil))) .nil) .nil)) .nil)) (.cons (.ret (.lit .non)) .nil)))
def q_swap_for : FI := ⟨12, ["grid", "second"], ["grid", "second", "wide", "r", "d", "c", "s", "at"], ⟨2, 8, false, b_swap_for⟩⟩
def b_swaps_between : CSs := (.cons (.exp (.call 11 (.cons (.var 0) (.cons (.var 1) .nil)))) (.cons (.asg (.tp (.cons (.nm 2) (.cons (.nm 3) .nil))) (.tup (.cons (.thaw (.lst .nil)) (.cons (.var 0) .nil)))) (.cons (.whl (.cmp .ne (.var 3) (.var 1)) (.cons (.asg (.nm 4) (.call 12 (.cons (.var 3) (.cons (.var 1) .nil)))) (.cons (.app (.var 2) (.var 4)) (.cons (.asg (.nm 3) (.call 9 (.cons (.var 3) (.cons (.var 4) .nil)))) .nil)))) (.cons (.ret (.bi .tuple (.cons (.var 2) .nil))) .nil))))
def q_swaps_between : FI := ⟨13, ["grid", "second"], ["grid", "second", "found", "here", "swap"], ⟨2, 5, false, b_swaps_between⟩⟩
def b_takes_swaps : CSs := (.cons (.exp (.call 11 (.cons (.var 0) (.cons (.var 1) .nil)))) (.cons (.ife (.or (.not (.call 1 (.cons (.var 2) (.cons (.lit (.int 0)) (.cons (.glo "LONG" (.int 2000)) .nil))))) (.not (.bi .all (.cons (.comp [("swap", 4)] (.nm 4) (.of (.var 2)) .nil (.call 7 (.cons (.var 0) (.cons (.var 4) .nil)))) .nil)))) (.cons (.ret (.lit (.bl false))) .nil) .nil) (.cons (.asg (.nm 3) (.var 0)) (.cons (.for_ (.nm 4) (.of (.var 2)) (.cons (.ife (.not (.call 8 (.cons (.var 3) (.cons (.var 4) .nil)))) (.cons (.ret (.lit (.bl false))) .nil) .nil) (.cons (.asg (.nm 3) (.call 9 (.cons (.var 3) (.cons (.var 4) .nil)))) .nil))) (.cons (.ret (.cmp .eq (.var 3) (.var 1))) .nil)))))
def q_takes_swaps : FI := ⟨14, ["grid", "second", "value"], ["grid", "second", "value", "here", "swap"], ⟨3, 5, false, b_takes_swaps⟩⟩
def b__law_cup : CSs := (.cons (.asg (.nm 1) (.bi .abs (.cons (.idx (.bin .add (.bi .list (.cons (.var 0) .nil)) (.lst (.cons (.lit (.int 0)) .nil))) (.lit (.int 0))) .nil))) (.cons (.ret (.lst (.cons (.ite (.cmp .ge (.var 1) (.bin .pow (.lit (.int 10)) (.lit (.int 18)))) (.bin .fdiv (.var 1) (.lit (.int 1169))) (.lit (.int 0))) (.cons (.bin .add (.bin .mod (.bi .int (.cons (.bin .add (.bin .mul (.var 1) (.lit (.int 2693))) (.lit (.int 8497))) .nil)) (.lit (.int 1998244343))) (.lit (.int 560))) .nil)))) .nil))
def q__law_cup : FI := ⟨15, ["script"], ["script", "cell"], ⟨1, 2, true, b__law_cup⟩⟩
def b__law_roll : CSs := (.cons (.ife (.cmp .gt (.idx (.var 0) (.lit (.int 0))) (.lit (.int 0))) (.cons (.asg (.nm 3) (.bin .mod (.bi .int (.cons (.idx (.var 0) (.lit (.int 0))) .nil)) (.var 1))) (.cons (.asg (.sub (.var 0) (.lit (.int 0))) (.bin .fdiv (.idx (.var 0) (.lit (.int 0))) (.var 1))) (.cons (.ret (.var 3)) .nil))) .nil) (.cons (.asg (.sub (.var 0) (.lit (.int 1))) (.bin .mod (.bi .int (.cons (.bin .add (.bin .mul (.idx (.var 0) (.lit (.int 1))) (.lit (.int 41047))) (.lit (.int 10111))) .nil)) (.lit (.int 2147483549)))) (.cons (.asg (.nm 2) (.bin .mod (.bi .int (.cons (.bin .mul (.idx (.var 0) (.lit (.int 1))) (.bin .add (.idx (.var 0) (.lit (.int 1))) (.lit (.int 401)))) .nil)) (.lit (.int 2147483489)))) (.cons (.ret (.bin .mod (.bi .int (.cons (.bin .fdiv (.var 2) (.lit (.int 983))) .nil)) (.var 1))) .nil))))
def q__law_roll : FI := ⟨16, ["cup", "many"], ["cup", "many", "deep", "found"], ⟨2, 4, false, b__law_roll⟩⟩
def b__law_like : CSs := (.cons (.ife (.or (.isi (.var 0) .bool) (.isi (.var 1) .bool)) (.cons (.ret (.and (.isi (.var 0) .bool) (.and (.isi (.var 1) .bool) (.cmp .eq (.var 0) (.var 1))))) .nil) .nil) (.cons (.ife (.or (.isi (.var 1) .tuple) (.isi (.var 1) .list)) (.cons (.ife (.not (.or (.and (.isi (.var 0) .tuple) (.isi (.var 1) .tuple)) (.and (.isi (.var 0) .list) (.isi (.var 1) .list)))) (.cons (.ret (.lit (.bl false))) .nil) .nil) (.cons (.ret (.and (.cmp .eq (.bi .len (.cons (.var 0) .nil)) (.bi .len (.cons (.var 1) .nil))) (.cmp .eq (.comp [("own", 2), ("part", 3)] (.tp (.cons (.nm 2) (.cons (.nm 3) .nil))) (.zip (.var 0) (.var 1)) (.cons (.not (.call 17 (.cons (.var 2) (.cons (.var 3) .nil)))) .nil) (.lit (.int 1))) (.lst .nil)))) .nil)) .nil) (.cons (.ret (.cmp .eq (.var 0) (.var 1))) .nil)))
def q__law_like : FI := ⟨18, ["one", "other"], ["one", "other", "own", "part"], ⟨2, 4, false, b__law_like⟩⟩
def b__law_done : CSs := (.cons (.asg (.tp (.cons (.nm 3) (.cons (.nm 4) (.cons (.nm 5) (.cons (.nm 6) .nil))))) (.var 1)) (.cons (.asg (.nm 2) (.thaw (.comp [("row", 10)] (.nm 10) (.of (.var 0)) .nil (.thaw (.bi .list (.cons (.var 10) .nil)))))) (.cons (.for_ (.tp (.cons (.nm 7) (.cons (.nm 8) (.cons (.nm 9) .nil)))) (.of (.tup (.cons (.tup (.cons (.var 3) (.cons (.var 5) (.cons (.lit (.int 1)) .nil)))) (.cons (.tup (.cons (.var 4) (.cons (.var 6) (.cons (.lit (.int 1)) .nil)))) (.cons (.tup (.cons (.var 3) (.cons (.var 6) (.cons (.neg (.lit (.int 1))) .nil)))) (.cons (.tup (.cons (.var 4) (.cons (.var 5) (.cons (.neg (.lit (.int 1))) .nil)))) .nil)))))) (.cons (.asg (.sub (.idx (.var 2) (.var 7)) (.var 8)) (.bin .add (.idx (.idx (.var 2) (.var 7)) (.var 8)) (.var 9))) .nil)) (.cons (.ret (.ite (.cmp .ge (.bi .min (.cons (.comp [("row", 10)] (.nm 10) (.of (.var 2)) .nil (.bi .min (.cons (.var 10) .nil))) .nil)) (.lit (.int 0))) (.bi .tuple (.cons (.comp [("row", 10)] (.nm 10) (.of (.var 2)) .nil (.bi .tuple (.cons (.var 10) .nil))) .nil)) (.lit .non))) .nil))))
def q__law_done : FI := ⟨19, ["grid", "swap"], ["grid", "swap", "rows", "r", "s", "c", "d", "at", "column", "more", "row"], ⟨2, 11, false, b__law_done⟩⟩
def b__law_drawn : CSs := (.cons (.asg (.tp (.cons (.nm 4) (.cons (.nm 5) .nil))) (.tup (.cons (.var 1) (.cons (.lst .nil) .nil)))) (.cons (.for_ (.nm 3) (.range (.cons (.var 2) .nil)) (.cons (.asg (.nm 6) (.call 16 (.cons (.var 0) (.cons (.bin .sub (.bi .len (.cons (.var 1) .nil)) (.lit (.int 1))) .nil)))) (.cons (.asg (.tp (.cons (.nm 9) (.cons (.nm 10) .nil))) (.tup (.cons (.bin .add (.bin .add (.var 6) (.lit (.int 1))) (.call 16 (.cons (.var 0) (.cons (.bin .sub (.bin .sub (.bi .len (.cons (.var 1) .nil)) (.lit (.int 1))) (.var 6)) .nil)))) (.cons (.call 16 (.cons (.var 0) (.cons (.bi .len (.cons (.idx (.var 1) (.lit (.int 0))) .nil)) .nil))) .nil)))) (.cons (.asg (.nm 7) (.bin .mod (.bi .int (.cons (.bin .add (.bin .add (.var 10) (.lit (.int 1))) (.call 16 (.cons (.var 0) (.cons (.bin .sub (.bi .len (.cons (.idx (.var 1) (.lit (.int 0))) .nil)) (.lit (.int 1))) .nil)))) .nil)) (.bi .len (.cons (.idx (.var 1) (.lit (.int 0))) .nil)))) (.cons (.asg (.nm 8) (.call 18 (.cons (.var 4) (.cons (.tup (.cons (.var 6) (.cons (.var 9) (.cons (.var 10) (.cons (.var 7) .nil))))) .nil)))) (.cons (.ife (.cmp .isnot (.var 8) (.lit .non)) (.cons (.asg (.tp (.cons (.nm 4) (.cons (.nm 5) .nil))) (.tup (.cons (.var 8) (.cons (.bin .add (.var 5) (.lst (.cons (.tup (.cons (.var 6) (.cons (.var 9) (.cons (.var 10) (.cons (.var 7) .nil))))) .nil))) .nil)))) .nil) .nil) .nil)))))) (.cons (.ret (.tup (.cons (.var 4) (.cons (.bi .tuple (.cons (.var 5) .nil)) .nil)))) .nil)))
def q__law_drawn : FI := ⟨20, ["cup", "grid", "many"], ["cup", "grid", "many", "turn", "here", "swaps", "r", "d", "told", "s", "c"], ⟨3, 11, false, b__law_drawn⟩⟩
def b__law_far : CSs := (.cons (.ret (.bi .sum (.cons (.comp [("row", 2), ("second", 3)] (.tp (.cons (.nm 2) (.cons (.nm 3) .nil))) (.zip (.var 0) (.var 1)) .nil (.bi .sum (.cons (.comp [("many", 4), ("more", 5)] (.tp (.cons (.nm 4) (.cons (.nm 5) .nil))) (.zip (.var 2) (.var 3)) .nil (.bi .abs (.cons (.bin .sub (.var 4) (.var 5)) .nil))) .nil))) .nil))) .nil)
def q__law_far : FI := ⟨21, ["one", "other"], ["one", "other", "row", "second", "many", "more"], ⟨2, 6, false, b__law_far⟩⟩
def b__law_back : CSs := (.cons (.ret (.bi .tuple (.cons (.comp [("r", 1), ("s", 2), ("c", 3), ("d", 4)] (.tp (.cons (.nm 1) (.cons (.nm 2) (.cons (.nm 3) (.cons (.nm 4) .nil))))) (.of (.slr (.var 0))) .nil (.tup (.cons (.var 1) (.cons (.var 2) (.cons (.var 4) (.cons (.var 3) .nil)))))) .nil))) .nil)
def q__law_back : FI := ⟨22, ["swaps"], ["swaps", "r", "s", "c", "d"], ⟨1, 5, false, b__law_back⟩⟩
def b__law_leads : CSs := (.cons (.asg (.nm 3) (.var 0)) (.cons (.for_ (.nm 4) (.of (.var 2)) (.cons (.ife (.not (.call 17 (.cons (.ite (.cmp .is_ (.call 3 (.cons (.var 3) .nil)) (.lit (.bl true))) (.call 10 (.cons (.var 3) (.cons (.var 4) .nil))) (.call 18 (.cons (.var 3) (.cons (.var 4) .nil)))) (.cons (.call 18 (.cons (.var 3) (.cons (.var 4) .nil))) .nil)))) (.cons (.ret (.lit (.bl false))) .nil) .nil) (.cons (.asg (.nm 3) (.call 18 (.cons (.var 3) (.cons (.var 4) .nil)))) .nil))) (.cons (.ret (.cmp .eq (.var 3) (.var 1))) .nil)))
def q__law_leads : FI := ⟨23, ["one", "other", "swaps"], ["one", "other", "swaps", "here", "swap"], ⟨3, 5, false, b__law_leads⟩⟩
def b__law_right : CSs := (.cons (.asg (.tp (.cons (.nm 6) (.cons (.nm 7) .nil))) (.tup (.cons (.bin .add (.lit (.int 2)) (.call 16 (.cons (.var 0) (.cons (.lit (.int 4)) .nil)))) (.cons (.bin .add (.lit (.int 2)) (.call 16 (.cons (.var 0) (.cons (.lit (.int 4)) .nil)))) .nil)))) (.cons (.asg (.nm 1) (.bi .tuple (.cons (.comp [("row", 11)] (.nm 11) (.range (.cons (.var 6) .nil)) .nil (.bi .tuple (.cons (.comp [("column", 12)] (.nm 12) (.range (.cons (.var 7) .nil)) .nil (.bi .min (.cons (.lit (.int 9)) (.cons (.call 16 (.cons (.var 0) (.cons (.lit (.int 8)) .nil))) .nil)))) .nil))) .nil))) (.cons (.asg (.tp (.cons (.nm 8) (.cons (.nm 9) .nil))) (.call 19 (.cons (.var 0) (.cons (.var 1) (.cons (.bin .add (.lit (.int 1)) (.call 16 (.cons (.var 0) (.cons (.lit (.int 20)) .nil)))) .nil))))) (.cons (.ife (.cmp .isnot (.call 14 (.cons (.var 1) (.cons (.var 1) (.cons (.bin .add (.var 9) (.call 21 (.cons (.var 9) .nil))) .nil)))) (.lit (.bl true))) (.cons (.ret (.lit (.bl false))) .nil) .nil) (.cons (.ife (.cmp .isnot (.call 3 (.cons (.var 8) .nil)) (.lit (.bl true))) (.cons (.ret (.lit (.bl true))) .nil) .nil) (.cons (.ife (.not (.call 17 (.cons (.tup (.cons (.call 6 (.cons (.var 8) .nil)) (.cons (.call 14 (.cons (.var 1) (.cons (.var 8) (.cons (.var 9) .nil)))) .nil))) (.cons (.tup (.cons (.call 6 (.cons (.var 1) .nil)) (.cons (.lit (.bl true)) .nil))) .nil)))) (.cons (.ret (.lit (.bl false))) .nil) .nil) (.cons (.asg (.nm 2) (.call 13 (.cons (.var 1) (.cons (.var 8) .nil)))) (.cons (.ife (.or (.cmp .gt (.bin .mul (.lit (.int 2)) (.bi .len (.cons (.var 2) .nil))) (.call 20 (.cons (.var 1) (.cons (.var 8) .nil)))) (.not (.call 22 (.cons (.var 1) (.cons (.var 8) (.cons (.var 2) .nil)))))) (.cons (.ret (.lit (.bl false))) .nil) .nil) (.cons (.asg (.nm 3) (.lst (.cons (.call 14 (.cons (.var 8) (.cons (.var 1) (.cons (.call 21 (.cons (.var 2) .nil)) .nil)))) (.cons (.call 14 (.cons (.var 1) (.cons (.var 1) (.cons (.bin .add (.var 2) (.call 21 (.cons (.var 9) .nil))) .nil)))) (.cons (.call 14 (.cons (.var 1) (.cons (.var 8) (.cons (.var 2) .nil)))) .nil))))) (.cons (.ife (.or (.cmp .ne (.var 3) (.bin .mul (.lst (.cons (.lit (.bl true)) .nil)) (.lit (.int 3)))) (.and (.cmp .ne (.var 2) (.tup .nil)) (.cmp .isnot (.call 14 (.cons (.var 1) (.cons (.var 8) (.cons (.slc (.var 2) .nil (.cons (.neg (.lit (.int 1))) .nil)) .nil)))) (.lit (.bl false))))) (.cons (.ret (.lit (.bl false))) .nil) .nil) (.cons (.asg (.nm 4) (.comp [("grid", 10)] (.nm 10) (.of (.tup (.cons (.var 1) (.cons (.var 8) .nil)))) .nil (.bi .tuple (.cons (.comp [("column", 12)] (.nm 12) (.range (.cons (.var 7) .nil)) .nil (.bi .tuple (.cons (.comp [("row", 11)] (.nm 11) (.of (.var 10)) .nil (.idx (.var 11) (.var 12))) .nil))) .nil)))) (.cons (.ife (.not (.call 17 (.cons (.call 6 (.cons (.idx (.var 4) (.lit (.int 0))) .nil)) (.cons (.slr (.call 6 (.cons (.var 1) .nil))) .nil)))) (.cons (.ret (.lit (.bl false))) .nil) .nil) (.cons (.asg (.nm 5) (.call 13 (.cons (.idx (.var 4) (.lit (.int 0))) (.cons (.idx (.var 4) (.lit (.int 1))) .nil)))) (.cons (.ret (.and (.cmp .le (.bin .mul (.lit (.int 2)) (.bi .len (.cons (.var 5) .nil))) (.call 20 (.cons (.var 1) (.cons (.var 8) .nil)))) (.cmp .is_ (.call 14 (.cons (.idx (.var 4) (.lit (.int 0))) (.cons (.idx (.var 4) (.lit (.int 1))) (.cons (.var 5) .nil)))) (.lit (.bl true))))) .nil))))))))))))))
def q__law_right : FI := ⟨24, ["cup"], ["cup", "one", "swaps", "told", "turned", "way", "high", "wide", "other", "drawn", "grid", "row", "column"], ⟨1, 13, false, b__law_right⟩⟩
def b_law : CSs := (.cons (.asg (.tp (.cons (.nm 3) (.cons (.nm 4) .nil))) (.tup (.cons (.tup (.cons (.tup (.cons (.lit (.int 1)) (.cons (.lit (.int 0)) (.cons (.lit (.int 0)) .nil)))) (.cons (.tup (.cons (.lit (.int 0)) (.cons (.lit (.int 1)) (.cons (.lit (.int 0)) .nil)))) (.cons (.tup (.cons (.lit (.int 0)) (.cons (.lit (.int 0)) (.cons (.lit (.int 1)) .nil)))) .nil)))) (.cons (.tup (.cons (.tup (.cons (.lit (.int 0)) (.cons (.lit (.int 1)) (.cons (.lit (.int 0)) .nil)))) (.cons (.tup (.cons (.lit (.int 0)) (.cons (.lit (.int 0)) (.cons (.lit (.int 1)) .nil)))) (.cons (.tup (.cons (.lit (.int 1)) (.cons (.lit (.int 0)) (.cons (.lit (.int 0)) .nil)))) .nil)))) .nil)))) (.cons (.ife (.or (.cmp .gt (.bi .len (.cons (.call 13 (.cons (.var 3) (.cons (.var 4) .nil))) .nil)) (.lit (.int 3))) (.not (.call 22 (.cons (.var 3) (.cons (.var 4) (.cons (.call 13 (.cons (.var 3) (.cons (.var 4) .nil))) .nil)))))) (.cons (.ret (.lit (.bl false))) .nil) .nil) (.cons (.asg (.tp (.cons (.nm 5) (.cons (.nm 6) .nil))) (.tup (.cons (.tup (.cons (.tup (.cons (.lit (.int 9)) (.cons (.lit (.int 1)) .nil))) (.cons (.tup (.cons (.lit (.int 1)) (.cons (.lit (.int 9)) .nil))) .nil))) (.cons (.tup (.cons (.tup (.cons (.lit (.int 8)) (.cons (.lit (.int 2)) .nil))) (.cons (.tup (.cons (.lit (.int 2)) (.cons (.lit (.int 8)) .nil))) .nil))) .nil)))) (.cons (.asg (.tp (.cons (.nm 7) (.cons (.nm 8) .nil))) (.tup (.cons (.tup (.cons (.tup (.cons (.lit (.int 0)) (.cons (.lit (.int 1)) (.cons (.lit (.int 0)) (.cons (.lit (.int 1)) .nil))))) .nil)) (.cons (.tup (.cons (.tup (.cons (.lit (.int 0)) (.cons (.lit (.int 1)) (.cons (.lit (.int 1)) (.cons (.lit (.int 0)) .nil))))) .nil)) .nil)))) (.cons (.asg (.nm 1) (.tup (.cons (.call 14 (.cons (.var 5) (.cons (.var 6) (.cons (.bin .add (.var 7) (.bin .mul (.var 8) (.lit (.int 2)))) .nil)))) (.cons (.call 14 (.cons (.var 5) (.cons (.var 6) (.cons (.bin .add (.bin .mul (.var 7) (.lit (.int 2))) (.bin .mul (.var 8) (.lit (.int 3)))) .nil)))) .nil)))) (.cons (.ife (.not (.call 17 (.cons (.bin .add (.var 1) (.tup (.cons (.call 13 (.cons (.var 5) (.cons (.var 6) .nil))) (.cons (.call 14 (.cons (.var 5) (.cons (.var 5) (.cons (.tup .nil) .nil)))) .nil)))) (.cons (.tup (.cons (.lit (.bl true)) (.cons (.lit (.bl false)) (.cons (.tup (.cons (.tup (.cons (.lit (.int 0)) (.cons (.lit (.int 1)) (.cons (.lit (.int 1)) (.cons (.lit (.int 0)) .nil))))) .nil)) (.cons (.lit (.bl true)) .nil))))) .nil)))) (.cons (.ret (.lit (.bl false))) .nil) .nil) (.cons (.asg (.nm 2) (.thaw (.call 15 (.cons (.var 0) .nil)))) (.cons (.ret (.cmp .eq (.comp [("turn", 9)] (.nm 9) (.range (.cons (.lit (.int 8)) .nil)) (.cons (.not (.call 23 (.cons (.var 2) .nil))) .nil) (.var 9)) (.lst .nil))) .nil))))))))
def q_law : FI := ⟨25, ["script"], ["script", "told", "cup", "one", "other", "nine", "less", "plus", "back", "turn"], ⟨1, 10, false, b_law⟩⟩
def fis : List FI := [q_is_whole, q_is_tuple_of, q_are_wholes, q_is_grid, q_need_grid, q_margins_of, q_margins, q_is_swap, q_can_swap, q_after_swap, q_swapped, q_need_alike, q_swap_for, q_swaps_between, q_takes_swaps, q__law_cup, q__law_roll, q__law_like, q__law_done, q__law_drawn, q__law_far, q__law_back, q__law_leads, q__law_right, q_law]
def gc : GC := ⟨["is_whole", "is_tuple_of", "are_wholes", "is_grid", "need_grid", "margins_of", "margins", "is_swap", "can_swap", "after_swap", "swapped", "need_alike", "swap_for", "swaps_between", "takes_swaps", "_law_cup", "_law_roll", "_law_like", "_law_done", "_law_drawn", "_law_far", "_law_back", "_law_leads", "_law_right", "law"], fis.map fun q => q.fd.fr, [("SIDE", (.int 5)), ("MOST", (.int 9)), ("LONG", (.int 2000))], ["abs", "all", "bool", "int", "isinstance", "len", "list", "min", "range", "sum", "tuple", "zip"], [], []⟩
theorem ba_is_whole : BindA (fn.getD 0 dD).params q_is_whole.ps := fun _ _ _ _ _ _ _ _ _ _ us hl => match us, hl with
  | [_, _, _], _ => rfl
theorem ba_is_tuple_of : BindA (fn.getD 1 dD).params q_is_tuple_of.ps := fun _ _ _ _ _ _ _ _ _ _ us hl => match us, hl with
  | [_, _, _], _ => rfl
theorem ba_are_wholes : BindA (fn.getD 2 dD).params q_are_wholes.ps := fun _ _ _ _ _ _ _ _ _ _ us hl => match us, hl with
  | [_, _, _, _], _ => rfl
theorem ba_is_grid : BindA (fn.getD 3 dD).params q_is_grid.ps := fun _ _ _ _ _ _ _ _ _ _ us hl => match us, hl with
  | [_], _ => rfl
theorem ba_need_grid : BindA (fn.getD 4 dD).params q_need_grid.ps := fun _ _ _ _ _ _ _ _ _ _ us hl => match us, hl with
  | [_], _ => rfl
theorem ba_margins_of : BindA (fn.getD 5 dD).params q_margins_of.ps := fun _ _ _ _ _ _ _ _ _ _ us hl => match us, hl with
  | [_], _ => rfl
theorem ba_margins : BindA (fn.getD 6 dD).params q_margins.ps := fun _ _ _ _ _ _ _ _ _ _ us hl => match us, hl with
  | [_], _ => rfl
theorem ba_is_swap : BindA (fn.getD 7 dD).params q_is_swap.ps := fun _ _ _ _ _ _ _ _ _ _ us hl => match us, hl with
  | [_, _], _ => rfl
theorem ba_can_swap : BindA (fn.getD 8 dD).params q_can_swap.ps := fun _ _ _ _ _ _ _ _ _ _ us hl => match us, hl with
  | [_, _], _ => rfl
theorem ba_after_swap : BindA (fn.getD 9 dD).params q_after_swap.ps := fun _ _ _ _ _ _ _ _ _ _ us hl => match us, hl with
  | [_, _], _ => rfl
theorem ba_swapped : BindA (fn.getD 10 dD).params q_swapped.ps := fun _ _ _ _ _ _ _ _ _ _ us hl => match us, hl with
  | [_, _], _ => rfl
theorem ba_need_alike : BindA (fn.getD 11 dD).params q_need_alike.ps := fun _ _ _ _ _ _ _ _ _ _ us hl => match us, hl with
  | [_, _], _ => rfl
theorem ba_swap_for : BindA (fn.getD 12 dD).params q_swap_for.ps := fun _ _ _ _ _ _ _ _ _ _ us hl => match us, hl with
  | [_, _], _ => rfl
theorem ba_swaps_between : BindA (fn.getD 13 dD).params q_swaps_between.ps := fun _ _ _ _ _ _ _ _ _ _ us hl => match us, hl with
  | [_, _], _ => rfl
theorem ba_takes_swaps : BindA (fn.getD 14 dD).params q_takes_swaps.ps := fun _ _ _ _ _ _ _ _ _ _ us hl => match us, hl with
  | [_, _, _], _ => rfl
theorem ba__law_cup : BindA (fn.getD 15 dD).params q__law_cup.ps := fun _ _ _ _ _ _ _ _ _ _ us hl => match us, hl with
  | [_], _ => rfl
theorem ba__law_roll : BindA (fn.getD 16 dD).params q__law_roll.ps := fun _ _ _ _ _ _ _ _ _ _ us hl => match us, hl with
  | [_, _], _ => rfl
theorem ba__law_like : BindA (fn.getD 18 dD).params q__law_like.ps := fun _ _ _ _ _ _ _ _ _ _ us hl => match us, hl with
  | [_, _], _ => rfl
theorem ba__law_done : BindA (fn.getD 19 dD).params q__law_done.ps := fun _ _ _ _ _ _ _ _ _ _ us hl => match us, hl with
  | [_, _], _ => rfl
theorem ba__law_drawn : BindA (fn.getD 20 dD).params q__law_drawn.ps := fun _ _ _ _ _ _ _ _ _ _ us hl => match us, hl with
  | [_, _, _], _ => rfl
theorem ba__law_far : BindA (fn.getD 21 dD).params q__law_far.ps := fun _ _ _ _ _ _ _ _ _ _ us hl => match us, hl with
  | [_, _], _ => rfl
theorem ba__law_back : BindA (fn.getD 22 dD).params q__law_back.ps := fun _ _ _ _ _ _ _ _ _ _ us hl => match us, hl with
  | [_], _ => rfl
theorem ba__law_leads : BindA (fn.getD 23 dD).params q__law_leads.ps := fun _ _ _ _ _ _ _ _ _ _ us hl => match us, hl with
  | [_, _, _], _ => rfl
theorem ba__law_right : BindA (fn.getD 24 dD).params q__law_right.ps := fun _ _ _ _ _ _ _ _ _ _ us hl => match us, hl with
  | [_], _ => rfl
theorem ba_law : BindA (fn.getD 25 dD).params q_law.ps := fun _ _ _ _ _ _ _ _ _ _ us hl => match us, hl with
  | [_], _ => rfl
theorem ok_t : okAll gc fn fa fis = true := by kernel_rfl
theorem binds : ∀ q ∈ fis, ∀ d, fn[q.i]? = some d → BindA d.params q.ps := by
  intro q hq d hd
  have e : d = fn.getD q.i dD := by rw [List.getD_eq_getElem?_getD, hd]; rfl
  subst e
  simp only [fis, List.mem_cons, List.not_mem_nil, or_false] at hq
  rcases hq with rfl | rfl | rfl | rfl | rfl | rfl | rfl | rfl | rfl | rfl | rfl | rfl | rfl | rfl | rfl | rfl | rfl | rfl | rfl | rfl | rfl | rfl | rfl | rfl | rfl
  · exact ba_is_whole
  · exact ba_is_tuple_of
  · exact ba_are_wholes
  · exact ba_is_grid
  · exact ba_need_grid
  · exact ba_margins_of
  · exact ba_margins
  · exact ba_is_swap
  · exact ba_can_swap
  · exact ba_after_swap
  · exact ba_swapped
  · exact ba_need_alike
  · exact ba_swap_for
  · exact ba_swaps_between
  · exact ba_takes_swaps
  · exact ba__law_cup
  · exact ba__law_roll
  · exact ba__law_like
  · exact ba__law_done
  · exact ba__law_drawn
  · exact ba__law_far
  · exact ba__law_back
  · exact ba__law_leads
  · exact ba__law_right
  · exact ba_law
end LawTop
end
section
set_option maxRecDepth 100000
set_option maxHeartbeats 0
open PySem PySem.W PySem.Calls PyProof.Rows
theorem claim_of (hrun : ∀ ns : List Int, ns.length ≤ 63 → ∃ s', Pv.callN (LawTop.fis.map Pv.FI.fd) 40 24 (fun _ => .bad) [.lst (ns.map Pv.D.int)] [] = .ok (.bl true) s') : PySem.Challenge.rw_blendhouse_k60_swaps_there_and_back.Holds := by
  w_on; o_law
  refine HandSHeadRun.head_any (r := OpenLaw.row PySem.Challenge.rw_blendhouse_k60_swaps_there_and_back) (q := view (OpenLaw.row PySem.Challenge.rw_blendhouse_k60_swaps_there_and_back).prog [35]) (H := LawTop.hk) (ob := LawTop.ob) (M := 6000) (loose := LawTop.loose) (d := HandSHeadRun.topDef (OpenLaw.row PySem.Challenge.rw_blendhouse_k60_swaps_there_and_back).prog 35) (kwd := []) LawTop.ob_eq
    (by kernel_rfl) (fun s => by kernel_rfl) LawTop.run (by kernel_rfl) (by kernel_rfl) (by kernel_rfl) (by rfl) (by first | assumption | decide +kernel) (by decide +kernel) ⟨rfl, rfl, rfl, rfl, rfl, by decide +kernel⟩ ?hw ?hc
  case hw => w_witness2
  case hc =>
    refine L2.walk_ofE (l := PySem.Challenge.rw_blendhouse_k60_swaps_there_and_back) (n := 63) (k := 40) (x := "script") (CX := Pv.CXe) rfl (by decide) (by kernel_rfl) ⟨rfl, by decide, by decide⟩ ?F Pv.cx_end
    intro w mg fa h Y G hmg0
    obtain ⟨K, KX, c⟩ := Y
    have hmg : mg ("law" : PySem.Str) = some (.ref fa) := by
      have e : (HandSHeadRun.topDef (OpenLaw.row PySem.Challenge.rw_blendhouse_k60_swaps_there_and_back).prog 35).name = ("law" : PySem.Str) := by kernel_rfl
      rw [← e]
      exact hmg0
    exact Pv.law_end c KX G (Pv.modF_of c KX G LawTop.ok_t) (Pv.all_of LawTop.ok_t LawTop.binds) (li := 24) (x := "law") rfl hmg rfl hrun
end
section
set_option maxRecDepth 100000
set_option maxHeartbeats 1000000
namespace Pv
open PySem (Str)
/-! ### the evaluator, step by step -/
section
variable {α β : Type} {c : Cl} {e : En} {s : Sto}
@[simp] theorem bind_ok {a : α} {f : α → Sto → Out β} : (Out.ok a s).bind f = f a s := id rfl
@[simp] theorem lift_some {d : D} : lift (some d) s = .ok d s := id rfl
@[simp] theorem truth_bl {b : Bool} : truth (.bl b) s = .ok b s := id rfl
@[simp] theorem thenS_ok {a : α} {f : α → Sto → OutS} : thenS (Out.ok a s) e f = f a s := id rfl
@[simp] theorem toS_ok {e1 : En} : toS (.ok e1 s) e = .nx e1 s := id rfl
@[simp] theorem noExc_ok {a : α} : noExc (Out.ok a s) = .ok a s := id rfl
@[simp] theorem onLoc_loc {n : Nat} {f : Nat → Out α} : onLoc (.loc n) f = f n := id rfl
@[simp] theorem rd_int' {i : Int} : rd s (.int i) = .int i := id rfl
@[simp] theorem rd_bl' {b : Bool} : rd s (.bl b) = .bl b := id rfl
@[simp] theorem rd_non' : rd s .non = .non := id rfl
@[simp] theorem rd_tup' {xs : List D} : rd s (.tup xs) = .tup xs := id rfl
@[simp] theorem rd_lst' {xs : List D} : rd s (.lst xs) = .lst xs := id rfl
@[simp] theorem rd_loc' {n : Nat} : rd s (.loc n) = s.getD n .non := id rfl
@[simp] theorem gok_nil : gok s [] = true := id rfl
@[simp] theorem ev_lit {d : D} : evE c (.lit d) e s = .ok d s := by rw [evE]
@[simp] theorem ev_glo {x : Str} {d : D} : evE c (.glo x d) e s = .ok d s := by rw [evE]
@[simp] theorem ev_tup {es : CEs} : evE c (.tup es) e s = (evEs c es e s).bind fun xs s => .ok (.tup xs) s := by rw [evE]
@[simp] theorem ev_lst {es : CEs} : evE c (.lst es) e s = (evEs c es e s).bind fun xs s => .ok (.lst xs) s := by rw [evE]
@[simp] theorem ev_bin {o : Op} {a b : CE} : evE c (.bin o a b) e s = (evE c a e s).bind fun x s => (evE c b e s).bind fun y s => lift (binD o (rd s x) (rd s y)) s := by rw [evE]
@[simp] theorem ev_neg {a : CE} : evE c (.neg a) e s = (evE c a e s).bind fun x s => lift (negD x) s := by rw [evE]
@[simp] theorem ev_cmp {o : Cp} {a b : CE} : evE c (.cmp o a b) e s = (evE c a e s).bind fun x s => (evE c b e s).bind fun y s => lift (cmpD o (fz 0 s x) (fz 0 s y)) s := by rw [evE]
@[simp] theorem ev_chn {o p : Cp} {a b d : CE} : evE c (.chn o p a b d) e s = (evE c a e s).bind fun x s => (evE c b e s).bind fun y s => (lift (cmpD o (fz 0 s x) (fz 0 s y)) s).bind fun z s => (truth z s).bind fun k s =>
      if k = true then (evE c d e s).bind fun u s => lift (cmpD p (fz 0 s y) (fz 0 s u)) s else .ok (.bl false) s := by rw [evE]
@[simp] theorem ev_and {a b : CE} : evE c (.and a b) e s = (evE c a e s).bind fun x s => (truth x s).bind fun k s => if k = true then evE c b e s else .ok (.bl false) s := by rw [evE]
@[simp] theorem ev_or {a b : CE} : evE c (.or a b) e s = (evE c a e s).bind fun x s => (truth x s).bind fun k s => if k = true then .ok (.bl true) s else evE c b e s := by rw [evE]
@[simp] theorem ev_not {a : CE} : evE c (.not a) e s = (evE c a e s).bind fun x s => (truth x s).bind fun k s => .ok (.bl (!k)) s := by rw [evE]
@[simp] theorem ev_ite {t a b : CE} : evE c (.ite t a b) e s = (evE c t e s).bind fun x s => (truth x s).bind fun k s => if k = true then evE c a e s else evE c b e s := by rw [evE]
@[simp] theorem ev_idx {a i : CE} : evE c (.idx a i) e s = (evE c a e s).bind fun x s => (evE c i e s).bind fun y s => lift (idxD (rd s x) y) s := by rw [evE]
@[simp] theorem ev_slr {a : CE} : evE c (.slr a) e s = (evE c a e s).bind fun x s => lift (revD (rd s x)) s := by rw [evE]
@[simp] theorem ev_call {f : Nat} {es : CEs} : evE c (.call f es) e s = (evEs c es e s).bind fun xs s => c.fn f (fun _ => .bad) xs s := by rw [evE]
@[simp] theorem ev_bi {b : BI} {es : CEs} : evE c (.bi b es) e s = (evEs c es e s).bind fun xs s => lift (biD b (xs.map (rd s))) s := by rw [evE]
@[simp] theorem ev_isi {a : CE} {t : Ty} : evE c (.isi a t) e s = (evE c a e s).bind fun x s => lift ((isiD t (rd s x)).map .bl) s := by rw [evE]
@[simp] theorem ev_nil : evEs c .nil e s = .ok [] s := by rw [evEs]
@[simp] theorem ev_cons {a : CE} {r : CEs} : evEs c (.cons a r) e s = (evE c a e s).bind fun x s => (evEs c r e s).bind fun xs s => .ok (x :: xs) s := by rw [evEs]
theorem ev_var {i : Nat} {d : D} (h : e[i]? = some (some d)) : evE c (.var i) e s = .ok d s := by rw [evE, h]
@[simp] theorem ev_v0 {d : D} {r : En} : evE c (.var 0) (some d :: r) s = .ok d s := by rw [evE]; rfl
@[simp] theorem ev_v1 {d : D} {a : Option D} {r : En} : evE c (.var 1) (a :: some d :: r) s = .ok d s := by rw [evE]; rfl
@[simp] theorem ev_v2 {d : D} {a b : Option D} {r : En} : evE c (.var 2) (a :: b :: some d :: r) s = .ok d s := by rw [evE]; rfl
@[simp] theorem ev_v3 {d : D} {a0 a1 a2 : Option D} {r : En} : evE c (.var 3) (a0 :: a1 :: a2 :: some d :: r) s = .ok d s := by rw [evE]; rfl
@[simp] theorem ev_v4 {d : D} {a0 a1 a2 a3 : Option D} {r : En} : evE c (.var 4) (a0 :: a1 :: a2 :: a3 :: some d :: r) s = .ok d s := by rw [evE]; rfl
@[simp] theorem ev_v5 {d : D} {a0 a1 a2 a3 a4 : Option D} {r : En} : evE c (.var 5) (a0 :: a1 :: a2 :: a3 :: a4 :: some d :: r) s = .ok d s := by rw [evE]; rfl
@[simp] theorem ev_v6 {d : D} {a0 a1 a2 a3 a4 a5 : Option D} {r : En} : evE c (.var 6) (a0 :: a1 :: a2 :: a3 :: a4 :: a5 :: some d :: r) s = .ok d s := by rw [evE]; rfl
@[simp] theorem ev_v7 {d : D} {a0 a1 a2 a3 a4 a5 a6 : Option D} {r : En} : evE c (.var 7) (a0 :: a1 :: a2 :: a3 :: a4 :: a5 :: a6 :: some d :: r) s = .ok d s := by rw [evE]; rfl
@[simp] theorem ev_v8 {d : D} {a0 a1 a2 a3 a4 a5 a6 a7 : Option D} {r : En} : evE c (.var 8) (a0 :: a1 :: a2 :: a3 :: a4 :: a5 :: a6 :: a7 :: some d :: r) s = .ok d s := by rw [evE]; rfl
@[simp] theorem ev_v9 {d : D} {a0 a1 a2 a3 a4 a5 a6 a7 a8 : Option D} {r : En} : evE c (.var 9) (a0 :: a1 :: a2 :: a3 :: a4 :: a5 :: a6 :: a7 :: a8 :: some d :: r) s = .ok d s := by rw [evE]; rfl
@[simp] theorem ev_v10 {d : D} {a0 a1 a2 a3 a4 a5 a6 a7 a8 a9 : Option D} {r : En} : evE c (.var 10) (a0 :: a1 :: a2 :: a3 :: a4 :: a5 :: a6 :: a7 :: a8 :: a9 :: some d :: r) s = .ok d s := by rw [evE]; rfl
@[simp] theorem ev_v11 {d : D} {a0 a1 a2 a3 a4 a5 a6 a7 a8 a9 a10 : Option D} {r : En} : evE c (.var 11) (a0 :: a1 :: a2 :: a3 :: a4 :: a5 :: a6 :: a7 :: a8 :: a9 :: a10 :: some d :: r) s = .ok d s := by rw [evE]; rfl
@[simp] theorem ev_v12 {d : D} {a0 a1 a2 a3 a4 a5 a6 a7 a8 a9 a10 a11 : Option D} {r : En} : evE c (.var 12) (a0 :: a1 :: a2 :: a3 :: a4 :: a5 :: a6 :: a7 :: a8 :: a9 :: a10 :: a11 :: some d :: r) s = .ok d s := by rw [evE]; rfl
@[simp] theorem ev_if_nil : evIf c .nil e s = .ok true s := by rw [evIf]
@[simp] theorem ev_if_cons {a : CE} {r : CEs} : evIf c (.cons a r) e s = (evE c a e s).bind fun x s => (truth x s).bind fun k s => if k = true then evIf c r e s else .ok false s := by rw [evIf]
@[simp] theorem ev_t_nm {i : Nat} {d : D} : evT c (.nm i) d e s = .ok (e.set i (some d)) s := by rw [evT]
@[simp] theorem ev_t_tp {ts : Tgs} {xs : List D} : evT c (.tp ts) (.tup xs) e s = evTs c ts xs e s := by rw [evT]; rfl
@[simp] theorem ev_ts_nil : evTs c .nil [] e s = .ok e s := by rw [evTs]
@[simp] theorem ev_ts_cons {t : Tg} {r : Tgs} {d : D} {ds : List D} : evTs c (.cons t r) (d :: ds) e s = (evT c t d e s).bind fun e1 s => evTs c r ds e1 s := by rw [evTs]
@[simp] theorem ev_ss_nil : evSs c .nil e s = .nx e s := by rw [evSs]
@[simp] theorem ev_s_ret {a : CE} : evS c (.ret a) e s = thenS (evE c a e s) e fun d s1 => .ret d s1 := by rw [evS]
@[simp] theorem ev_s_exp {a : CE} : evS c (.exp a) e s = toS ((evE c a e s).bind fun _ s => .ok e s) e := by rw [evS]
@[simp] theorem ev_s_asg {t : Tg} {a : CE} : evS c (.asg t a) e s = toS ((evE c a e s).bind fun d s => evT c t d e s) e := by rw [evS]
@[simp] theorem ev_s_ife {t : CE} {a b : CSs} : evS c (.ife t a b) e s = thenS ((evE c t e s).bind truth) e fun k s1 => if k = true then evSs c a e s1 else evSs c b e s1 := by rw [evS]
def seqS (x : OutS) (f : En → Sto → OutS) : OutS :=
  match x with
  | .nx e s => f e s
  | x => x
@[simp] theorem seqS_nx {f : En → Sto → OutS} : seqS (.nx e s) f = f e s := id rfl
@[simp] theorem seqS_ret {d : D} {f : En → Sto → OutS} : seqS (.ret d s) f = .ret d s := id rfl
@[simp] theorem ev_ss_cons {a : CS} {r : CSs} : evSs c (.cons a r) e s = seqS (evS c a e s) fun e s => evSs c r e s := by
  rw [evSs]
  cases evS c a e s <;> rfl
theorem ss_nx {a : CS} {r : CSs} {e1 : En} {s1 : Sto} (h : evS c a e s = .nx e1 s1) : evSs c (.cons a r) e s = evSs c r e1 s1 := by rw [evSs, h]
theorem ss_ret {a : CS} {r : CSs} {d : D} {s1 : Sto} (h : evS c a e s = .ret d s1) : evSs c (.cons a r) e s = .ret d s1 := by rw [evSs, h]
def liftO {γ : Type} (x : Option γ) (s : Sto) : Out γ :=
  match x with
  | some b => .ok b s
  | none => .bad
@[simp] theorem liftO_some {γ : Type} {x : γ} : liftO (some x) s = .ok x s := id rfl
@[simp] theorem ev_i_of {a : CE} : evI c (.of a) e s = (evE c a e s).bind fun x s => liftO (walkD s x) s := by
  rw [evI]
  congr
  funext x s
  cases walkD s x <;> rfl
@[simp] theorem ev_i_range {es : CEs} : evI c (.range es) e s = (evEs c es e s).bind fun xs s => liftO ((rngD xs).map fun l => (l, [])) s := by
  rw [evI]
  congr
  funext xs s
  cases rngD xs <;> rfl
@[simp] theorem walk_tup {xs : List D} : walkD s (.tup xs) = some (xs, []) := id rfl
@[simp] theorem walk_lst {xs : List D} : walkD s (.lst xs) = some (xs, []) := id rfl
end
/-! ### values without cells -/
mutual
theorem fzD_id {n : Nat} {g : Nat → D} : ∀ d : D, noloc d = true → fzD n g d = d
  | .non, _ => rfl
  | .bl _, _ => rfl
  | .int _, _ => rfl
  | .str _, _ => rfl
  | .tup xs, h => by simp only [noloc] at h; simp only [fzD]; rw [fzDs_id xs h]
  | .lst xs, h => by simp only [noloc] at h; simp only [fzD]; rw [fzDs_id xs h]
  | .set xs, h => by simp only [noloc] at h; simp only [fzD]; rw [fzDs_id xs h]
  | .dct ks vs, h => by simp only [noloc, Bool.and_eq_true] at h; simp only [fzD]; rw [fzDs_id ks h.1, fzDs_id vs h.2]
theorem fzDs_id {n : Nat} {g : Nat → D} : ∀ ds : List D, nolocs ds = true → fzDs n g ds = ds
  | [], _ => rfl
  | d :: r, h => by simp only [nolocs, Bool.and_eq_true] at h; simp only [fzDs]; rw [fzD_id d h.1, fzDs_id r h.2]
end
theorem fz_id {n : Nat} {s : Sto} {d : D} (h : noloc d = true) : fz n s d = d := fzD_id d h
@[simp] theorem fz_int {n : Nat} {s : Sto} {i : Int} : fz n s (.int i) = .int i := id rfl
@[simp] theorem fz_bl {n : Nat} {s : Sto} {b : Bool} : fz n s (.bl b) = .bl b := id rfl
@[simp] theorem fz_non {n : Nat} {s : Sto} : fz n s .non = .non := id rfl
theorem nolocs_iff {xs : List D} : nolocs xs = true ↔ ∀ d ∈ xs, noloc d = true := by
  induction xs with
  | nil => simp [nolocs]
  | cons d r ih => simp [nolocs, ih]
theorem plains_iff {k : Nat} {xs : List D} : plains k xs = true ↔ ∀ d ∈ xs, plain k d = true := by
  induction xs with
  | nil => simp [plains]
  | cons d r ih => simp [plains, ih]
mutual
def pint : Nat → D → Bool
  | _, .non => true
  | _, .int _ => true
  | k, .tup xs => match k with
    | 0 => false
    | k + 1 => pints k xs
  | k, .lst xs => match k with
    | 0 => false
    | k + 1 => pints k xs
  | _, _ => false
def pints : Nat → List D → Bool
  | _, [] => true
  | k, x :: r => pint k x && pints k r
end
theorem pints_iff {k : Nat} {xs : List D} : pints k xs = true ↔ ∀ d ∈ xs, pint k d = true := by
  induction xs with
  | nil => simp [pints]
  | cons d r ih => simp [pints, ih]
mutual
theorem pint_noloc : ∀ (k : Nat) (d : D), pint k d = true → noloc d = true
  | _, .non, _ => rfl
  | _, .int _, _ => rfl
  | k + 1, .tup xs, h => by simp only [pint] at h; simp only [noloc]; exact pints_nolocs k xs h
  | k + 1, .lst xs, h => by simp only [pint] at h; simp only [noloc]; exact pints_nolocs k xs h
  | 0, .tup xs, h => by simp [pint] at h
  | 0, .lst xs, h => by simp [pint] at h
  | _, .bl _, h => by simp [pint] at h
  | _, .str _, h => by simp [pint] at h
  | _, .set _, h => by simp [pint] at h
  | _, .dct _ _, h => by simp [pint] at h
  | _, .loc _, h => by simp [pint] at h
theorem pints_nolocs : ∀ (k : Nat) (ds : List D), pints k ds = true → nolocs ds = true
  | _, [], _ => rfl
  | k, d :: r, h => by simp only [pints, Bool.and_eq_true] at h; simp only [nolocs]; rw [pint_noloc k d h.1, pints_nolocs k r h.2]; rfl
end
mutual
theorem pint_plain : ∀ (k : Nat) (d : D), pint k d = true → plain k d = true
  | _, .non, _ => by simp [plain]
  | _, .int _, _ => by simp [plain]
  | k + 1, .tup xs, h => by simp only [pint] at h; simp only [plain]; exact pints_plains k xs h
  | k + 1, .lst xs, h => by simp only [pint] at h; simp only [plain]; exact pints_plains k xs h
  | 0, .tup xs, h => by simp [pint] at h
  | 0, .lst xs, h => by simp [pint] at h
  | _, .bl _, h => by simp [pint] at h
  | _, .str _, h => by simp [pint] at h
  | _, .set _, h => by simp [pint] at h
  | _, .dct _ _, h => by simp [pint] at h
  | _, .loc _, h => by simp [pint] at h
theorem pints_plains : ∀ (k : Nat) (ds : List D), pints k ds = true → plains k ds = true
  | _, [], _ => rfl
  | k, d :: r, h => by simp only [pints, Bool.and_eq_true] at h; simp only [plains]; rw [pint_plain k d h.1, pints_plains k r h.2]; rfl
end
mutual
theorem plain_le : ∀ {k m : Nat}, k ≤ m → ∀ d : D, plain k d = true → plain m d = true
  | _, _, _, .non, _ => by simp [plain]
  | _, _, _, .bl _, _ => by simp [plain]
  | _, _, _, .int _, _ => by simp [plain]
  | _, _, _, .str x, h => by simpa [plain] using h
  | k + 1, m + 1, hl, .tup xs, h => by simp only [plain] at h ⊢; exact plains_le (by omega) xs h
  | k + 1, m + 1, hl, .lst xs, h => by simp only [plain] at h ⊢; exact plains_le (by omega) xs h
  | 0, _, _, .tup xs, h => by simp [plain] at h
  | 0, _, _, .lst xs, h => by simp [plain] at h
  | k + 1, 0, hl, .tup xs, h => by omega
  | k + 1, 0, hl, .lst xs, h => by omega
  | _, _, _, .set _, h => by simp [plain] at h
  | _, _, _, .dct _ _, h => by simp [plain] at h
  | _, _, _, .loc _, h => by simp [plain] at h
theorem plains_le : ∀ {k m : Nat}, k ≤ m → ∀ ds : List D, plains k ds = true → plains m ds = true
  | _, _, _, [], _ => rfl
  | k, m, hl, d :: r, h => by simp only [plains, Bool.and_eq_true] at h ⊢; exact ⟨plain_le hl d h.1, plains_le hl r h.2⟩
end
mutual
theorem eqv_pint : ∀ (k m : Nat) (a b : D), pint k a = true → pint m b = true → (eqv a b = true ↔ a = b)
  | _, _, .non, b, h, g => by cases b <;> simp [eqv, pint] at *
  | _, _, .int i, b, h, g => by cases b <;> simp [eqv, pint] at *
  | k + 1, m + 1, .tup xs, .tup ys, h, g => by
    simp only [pint] at h g
    simp only [eqv, D.tup.injEq]
    exact eqvs_pints k m xs ys h g
  | k + 1, m + 1, .lst xs, .lst ys, h, g => by
    simp only [pint] at h g
    simp only [eqv, D.lst.injEq]
    exact eqvs_pints k m xs ys h g
  | k + 1, 0, .tup xs, .tup ys, h, g => by simp [pint] at g
  | k + 1, 0, .lst xs, .lst ys, h, g => by simp [pint] at g
  | 0, _, .tup xs, _, h, _ => by simp [pint] at h
  | 0, _, .lst xs, _, h, _ => by simp [pint] at h
  | _, _, .tup xs, .non, _, _ => by simp [eqv]
  | _, _, .tup xs, .int _, _, _ => by simp [eqv]
  | _, _, .tup xs, .lst _, _, _ => by simp [eqv]
  | _, _, .tup xs, .bl _, _, g => by simp [pint] at g
  | _, _, .tup xs, .str _, _, g => by simp [pint] at g
  | _, _, .tup xs, .set _, _, g => by simp [pint] at g
  | _, _, .tup xs, .dct _ _, _, g => by simp [pint] at g
  | _, _, .tup xs, .loc _, _, g => by simp [pint] at g
  | _, _, .lst xs, .non, _, _ => by simp [eqv]
  | _, _, .lst xs, .int _, _, _ => by simp [eqv]
  | _, _, .lst xs, .tup _, _, _ => by simp [eqv]
  | _, _, .lst xs, .bl _, _, g => by simp [pint] at g
  | _, _, .lst xs, .str _, _, g => by simp [pint] at g
  | _, _, .lst xs, .set _, _, g => by simp [pint] at g
  | _, _, .lst xs, .dct _ _, _, g => by simp [pint] at g
  | _, _, .lst xs, .loc _, _, g => by simp [pint] at g
  | _, _, .bl _, _, h, _ => by simp [pint] at h
  | _, _, .str _, _, h, _ => by simp [pint] at h
  | _, _, .set _, _, h, _ => by simp [pint] at h
  | _, _, .dct _ _, _, h, _ => by simp [pint] at h
  | _, _, .loc _, _, h, _ => by simp [pint] at h
theorem eqvs_pints : ∀ (k m : Nat) (a b : List D), pints k a = true → pints m b = true → (eqvs a b = true ↔ a = b)
  | _, _, [], [], _, _ => by simp [eqvs]
  | _, _, [], _ :: _, _, _ => by simp [eqvs]
  | _, _, _ :: _, [], _, _ => by simp [eqvs]
  | k, m, x :: xs, y :: ys, h, g => by
    simp only [pints, Bool.and_eq_true] at h g
    simp only [eqvs, Bool.and_eq_true, List.cons.injEq]
    rw [eqv_pint k m x y h.1 g.1, eqvs_pints k m xs ys h.2 g.2]
end
open Classical in
theorem eq_pint {a b : D} (h : pint 60 a = true) (g : pint 60 b = true) : eqD a b = some (decide (a = b)) := by
  unfold eqD
  rw [pint_plain 60 a h, pint_plain 60 b g]
  simp only [Bool.and_self, if_true]
  congr 1
  by_cases e : a = b
  · rw [(eqv_pint 60 60 a b h g).mpr e]; simp [e]
  · rw [Bool.eq_false_iff.mpr fun z => e ((eqv_pint 60 60 a b h g).mp z)]; simp [e]
/-! ### loops -/
theorem loopC_map {body : D → Sto → Out (Option D)} {g : Gd} {s : Sto} {f : D → D} : ∀ {ds : List D}, gok s g = true → (∀ d ∈ ds, body d s = .ok (some (f d)) s) → loopC body g ds s = .ok (ds.map f) s
  | [], hg, _ => by simp [loopC, hg]
  | d :: r, hg, h => by
    simp only [loopC, hg, if_true]
    rw [h d (by simp), bind_ok, loopC_map hg fun d hd => h d (by simp [hd])]
    rfl
theorem loopC_filterMap {body : D → Sto → Out (Option D)} {g : Gd} {s : Sto} {f : D → Option D} : ∀ {ds : List D}, gok s g = true → (∀ d ∈ ds, body d s = .ok (f d) s) → loopC body g ds s = .ok (ds.filterMap f) s
  | [], hg, _ => by simp [loopC, hg]
  | d :: r, hg, h => by
    simp only [loopC, hg, if_true]
    rw [h d (by simp), bind_ok, loopC_filterMap hg fun d hd => h d (by simp [hd])]
    cases q : f d <;> simp [q]
@[simp] theorem ev_comp' {c : Cl} {own : List (Str × Nat)} {tg : Tg} {it : CI} {ifs : CEs} {elt : CE} {e : En} {s : Sto} : evE c (.comp own tg it ifs elt) e s = (evI c it e s).bind fun w s => (noExc (loopC (fun d s => (evT c tg d (wipeE e own) s).bind fun e1 s => (evIf c ifs e1 s).bind fun k s =>
      if k = true then (evE c elt e1 s).bind fun y s => .ok (some y) s else .ok none s) w.2 w.1 s)).bind fun ys s => if ys.length ≤ big then .ok (.lst ys) s else .bad := by rw [evE]
theorem loopC_of {α : Type} {body : D → Sto → Out (Option D)} {g : Gd} {s : Sto} {i : α → D} (f : α → D) : ∀ {xs : List α}, gok s g = true → (∀ x ∈ xs, body (i x) s = .ok (some (f x)) s) → loopC body g (xs.map i) s = .ok (xs.map f) s
  | [], hg, _ => by simp [loopC, hg]
  | d :: r, hg, h => by
    simp only [loopC, hg, if_true, List.map_cons]
    rw [h d (by simp), bind_ok, loopC_of f hg fun d hd => h d (by simp [hd])]
    rfl
theorem loopC_fo {α : Type} {body : D → Sto → Out (Option D)} {g : Gd} {s : Sto} {i : α → D} (f : α → Option D) : ∀ {xs : List α}, gok s g = true → (∀ x ∈ xs, body (i x) s = .ok (f x) s) → loopC body g (xs.map i) s = .ok (xs.filterMap f) s
  | [], hg, _ => by simp [loopC, hg]
  | d :: r, hg, h => by
    simp only [loopC, hg, if_true, List.map_cons]
    rw [h d (by simp), bind_ok, loopC_fo f hg fun d hd => h d (by simp [hd])]
    cases q : f d <;> simp [q]
/-- new lists, each a cell -/
theorem loopC_thaw {α : Type} {body : D → Sto → Out (Option D)} {i : α → D} (f : α → List D) : ∀ {xs : List α} {s : Sto}, (∀ x ∈ xs, ∀ s', body (i x) s' = .ok (some (.loc s'.length)) (s' ++ [.lst (f x)])) →
    loopC body [] (xs.map i) s = .ok ((List.range xs.length).map fun k => .loc (s.length + k)) (s ++ xs.map fun x => .lst (f x))
  | [], s, _ => by simp [loopC]
  | x :: r, s, h => by
    simp only [loopC, gok_nil, if_true, List.map_cons]
    rw [h x (by simp), bind_ok, loopC_thaw f fun y hy => h y (by simp [hy]), bind_ok]
    simp only [List.append_assoc, List.singleton_append, List.length_cons, List.range_succ_eq_map, List.map_cons, List.map_map, List.length_append, List.length_nil]
    congr 1
    simp only [Nat.add_zero, List.cons.injEq, true_and]
    refine List.map_congr_left fun k _ => ?_
    show D.loc _ = D.loc _
    congr 1
    omega
mutual
theorem same_refl : ∀ d : D, same d d = true
  | .non => rfl
  | .bl _ => by simp [same]
  | .int _ => by simp [same]
  | .str _ => by simp [same]
  | .loc _ => by simp [same]
  | .tup xs => by simp only [same]; exact sames_refl xs
  | .lst xs => by simp only [same]; exact sames_refl xs
  | .set xs => by simp only [same]; exact sames_refl xs
  | .dct ks vs => by simp only [same, Bool.and_eq_true]; exact ⟨sames_refl ks, sames_refl vs⟩
theorem sames_refl : ∀ ds : List D, sames ds ds = true
  | [] => rfl
  | d :: r => by simp only [sames, Bool.and_eq_true]; exact ⟨same_refl d, sames_refl r⟩
end
@[simp] theorem at_nat {xs : List D} {i : Nat} : atD xs (i : Int) = xs[i]? := by simp [atD]
@[simp] theorem at_zero {xs : List D} : atD xs 0 = xs[0]? := by simp [atD]
theorem ev_thaw {c : Cl} {a : CE} {e : En} {s s1 : Sto} {xs : List D} (h : evE c a e s = .ok (.lst xs) s1) (hb : belows s1.length xs = true) : evE c (.thaw a) e s = .ok (.loc s1.length) (s1 ++ [.lst xs]) := by
  rw [evE, h, bind_ok]
  simp [hb]
def thawO (x : D) (s : Sto) : Out D :=
  match x with
  | .lst xs => if belows s.length xs then .ok (.loc s.length) (s ++ [.lst xs]) else .bad
  | _ => .bad
@[simp] theorem thawO_lst {xs : List D} {s : Sto} : thawO (.lst xs) s = if belows s.length xs then .ok (.loc s.length) (s ++ [.lst xs]) else .bad := id rfl
@[simp] theorem ev_thaw' {c : Cl} {a : CE} {e : En} {s : Sto} : evE c (.thaw a) e s = (evE c a e s).bind fun x s => thawO x s := by
  rw [evE]
  congr
def subO (y : D) (n : Nat) (d : D) (e : En) (s : Sto) : Out En :=
  match y with
  | .int k => (setC n k d s).bind fun _ s => .ok e s
  | _ => .bad
@[simp] theorem subO_int {k : Int} {n : Nat} {d : D} {e : En} {s : Sto} : subO (.int k) n d e s = (setC n k d s).bind fun _ s => .ok e s := id rfl
@[simp] theorem ev_t_sub {c : Cl} {o i : CE} {d : D} {e : En} {s : Sto} : evT c (.sub o i) d e s = (noExc (evE c o e s)).bind fun x s => onLoc x fun n => (noExc (evE c i e s)).bind fun y s => subO y n d e s := by
  rw [evT]
  congr
theorem belows_ints {n : Nat} (ns : List Int) : belows n (ns.map D.int) = true := by
  induction ns with
  | nil => rfl
  | cons a r ih => simp [belows, below, ih]
theorem belows_locs {n : Nat} {α : Type} {f : α → Nat} : ∀ {xs : List α}, (∀ x ∈ xs, f x < n) → belows n (xs.map fun x => .loc (f x)) = true
  | [], _ => rfl
  | x :: r, h => by
    have h1 := h x (by simp)
    simp only [List.map_cons, belows, below, h1, decide_true, Bool.true_and]
    exact belows_locs (f := f) fun y hy => h y (List.mem_cons_of_mem _ hy)
theorem blsD_map {α : Type} {f : α → Bool} : ∀ {xs : List α}, blsD (xs.map fun x => .bl (f x)) = some (xs.map f)
  | [] => rfl
  | x :: r => by simp [blsD, blsD_map]
theorem intsD_map {α : Type} {f : α → Int} : ∀ {xs : List α}, intsD (xs.map fun x => .int (f x)) = some (xs.map f)
  | [] => rfl
  | x :: r => by simp [intsD, intsD_map]
/-- a comprehension over a value, the store as it was -/
theorem ev_comp {c : Cl} {own : List (Str × Nat)} {tg : Tg} {it : CI} {ifs : CEs} {elt : CE} {e : En} {s s1 s2 : Sto} {w : List D × Gd} {ys : List D} (h1 : evI c it e s = .ok w s1)
    (h2 : loopC (fun d s => (evT c tg d (wipeE e own) s).bind fun e1 s => (evIf c ifs e1 s).bind fun k s => if k = true then (evE c elt e1 s).bind fun y s => .ok (some y) s else .ok none s) w.2 w.1 s1 = .ok ys s2) (hl : ys.length ≤ big) :
    evE c (.comp own tg it ifs elt) e s = .ok (.lst ys) s2 := by
  rw [evE, h1, bind_ok, h2, noExc_ok, bind_ok, if_pos hl]
/-- a def's call -/
theorem call_of {fs : List FD} {n f : Nat} {fd : FD} {th : Sto → Out D} {args : List D} {s : Sto} (h : fs[f]? = some fd) (hl : args.length = fd.np) {d : D} {s1 : Sto}
    (hr : evSs ⟨callN fs n, th⟩ fd.body (args.map some ++ List.replicate (fd.nl - fd.np) none) s = .ret d s1) (hf : (fd.fr && lowLoc s.length d) = false) : callN fs (n + 1) f th args s = .ok (fz s.length s1 d) (s1.take s.length) := by
  simp only [callN, h, runF, hl, if_true, hr, hf, Bool.false_eq_true, if_false, leave]
theorem call_nx {fs : List FD} {n f : Nat} {fd : FD} {th : Sto → Out D} {args : List D} {s : Sto} (h : fs[f]? = some fd) (hl : args.length = fd.np) {e : En} {s1 : Sto}
    (hr : evSs ⟨callN fs n, th⟩ fd.body (args.map some ++ List.replicate (fd.nl - fd.np) none) s = .nx e s1) : callN fs (n + 1) f th args s = .ok .non (s1.take s.length) := by
  simp only [callN, h, runF, hl, if_true, hr, leave]
  rfl
/-! ### lists of ints, of truth values -/
def iD (ns : List Int) : List D := ns.map D.int
def bD (bs : List Bool) : List D := bs.map D.bl
def nI (k : Nat) : D := .int k
theorem iD_get {ns : List Int} {i : Nat} : (iD ns)[i]? = (ns[i]?).map D.int := by simp [iD]
@[simp] theorem iD_len {ns : List Int} : (iD ns).length = ns.length := by simp [iD]
@[simp] theorem bD_len {ns : List Bool} : (bD ns).length = ns.length := by simp [bD]
@[simp] theorem iD_ints : ∀ {ns : List Int}, intsD (iD ns) = some ns
  | [] => rfl
  | n :: r => by
    have := iD_ints (ns := r)
    simp only [iD] at this
    simp [iD, intsD, this]
@[simp] theorem bD_bls : ∀ {ns : List Bool}, blsD (bD ns) = some ns
  | [] => rfl
  | n :: r => by
    have := bD_bls (ns := r)
    simp only [bD] at this
    simp [bD, blsD, this]
theorem iD_pint {k : Nat} {ns : List Int} : pints k (iD ns) = true := by
  rw [pints_iff]
  intro d hd
  simp only [iD, List.mem_map] at hd
  obtain ⟨n, _, rfl⟩ := hd
  simp [pint]
theorem iD_below {n : Nat} {ns : List Int} : belows n (iD ns) = true := belows_ints ns
theorem iD_inj : ∀ {ns ms : List Int}, iD ns = iD ms ↔ ns = ms
  | [], [] => by simp
  | [], _ :: _ => by simp [iD]
  | _ :: _, [] => by simp [iD]
  | a :: r, b :: t => by
    have := iD_inj (ns := r) (ms := t)
    simp only [iD] at this
    simp [iD, this]
theorem loopC_int {α : Type} {body : D → Sto → Out (Option D)} {g : Gd} {s : Sto} {i : α → D} (f : α → Int) {xs : List α} (hg : gok s g = true) (h : ∀ x ∈ xs, body (i x) s = .ok (some (.int (f x))) s) : loopC body g (xs.map i) s = .ok (iD (xs.map f)) s := by
  rw [loopC_of (fun x => .int (f x)) hg h]
  simp [iD, Function.comp_def]
theorem loopC_bl {α : Type} {body : D → Sto → Out (Option D)} {g : Gd} {s : Sto} {i : α → D} (f : α → Bool) {xs : List α} (hg : gok s g = true) (h : ∀ x ∈ xs, body (i x) s = .ok (some (.bl (f x))) s) : loopC body g (xs.map i) s = .ok (bD (xs.map f)) s := by
  rw [loopC_of (fun x => .bl (f x)) hg h]
  simp [bD, Function.comp_def]
theorem rangeD_nat {n : Nat} : rangeD 0 n 1 = (List.range n).map nI := by
  unfold rangeD
  refine List.map_congr_left fun k _ => ?_
  show D.int (0 + (k : Int) * 1) = D.int k
  rw [Int.zero_add, Int.mul_one]
theorem rng1 {n : Nat} (h : n ≤ 5000000) : rngD [.int (n : Int)] = some ((List.range n).map nI) := by
  have h0 : inR (n : Int) = true := by unfold inR; exact decide_eq_true ⟨by omega, by omega⟩
  unfold rngD
  simp only [h0, if_true]
  rw [Int.toNat_natCast, rangeD_nat]
/-! ### operations at known values -/
section
variable {i j : Int} {b b2 : Bool} {xs ys : List D} {ns : List Int} {s : Sto}
@[simp] theorem bi_len_t : biD .len [.tup xs] = some (.int xs.length) := id rfl
@[simp] theorem bi_len_l : biD .len [.lst xs] = some (.int xs.length) := id rfl
@[simp] theorem bi_abs : biD .abs [.int i] = some (.int (if i < 0 then -i else i)) := id rfl
@[simp] theorem bi_int : biD .int [.int i] = some (.int i) := id rfl
@[simp] theorem bi_sum_l : biD .sum [.lst (iD ns)] = some (.int ns.sum) := by simp [biD, seqD]
@[simp] theorem bi_sum_t : biD .sum [.tup (iD ns)] = some (.int ns.sum) := by simp [biD, seqD]
@[simp] theorem bi_min2 : biD .min [.int i, .int j] = some (.int (if j < i then j else i)) := id rfl
@[simp] theorem bi_max2 : biD .max [.int i, .int j] = some (.int (if j > i then j else i)) := id rfl
@[simp] theorem bi_all {bs : List Bool} : biD .all [.lst (bD bs)] = some (.bl (bs.all id)) := by simp [biD]
@[simp] theorem bi_any {bs : List Bool} : biD .any [.lst (bD bs)] = some (.bl (bs.any id)) := by simp [biD]
@[simp] theorem bi_tup_l : biD .tuple [.lst xs] = some (.tup xs) := id rfl
@[simp] theorem bi_tup_t : biD .tuple [.tup xs] = some (.tup xs) := id rfl
@[simp] theorem bi_lst_l : biD .list [.lst xs] = some (.lst xs) := id rfl
@[simp] theorem bi_lst_t : biD .list [.tup xs] = some (.lst xs) := id rfl
@[simp] theorem ix_t : idxD (.tup xs) (.int i) = atD xs i := id rfl
@[simp] theorem ix_l : idxD (.lst xs) (.int i) = atD xs i := id rfl
@[simp] theorem isi_int_int : isiD .int (.int i) = some true := id rfl
@[simp] theorem isi_bool_int : isiD .bool (.int i) = some false := id rfl
@[simp] theorem isi_bool_bl : isiD .bool (.bl b) = some true := id rfl
@[simp] theorem isi_bool_t : isiD .bool (.tup xs) = some false := id rfl
@[simp] theorem isi_bool_l : isiD .bool (.lst xs) = some false := id rfl
@[simp] theorem isi_bool_n : isiD .bool .non = some false := id rfl
@[simp] theorem isi_tup_t : isiD .tuple (.tup xs) = some true := id rfl
@[simp] theorem isi_tup_l : isiD .tuple (.lst xs) = some false := id rfl
@[simp] theorem isi_tup_i : isiD .tuple (.int i) = some false := id rfl
@[simp] theorem isi_tup_b : isiD .tuple (.bl b) = some false := id rfl
@[simp] theorem isi_tup_n : isiD .tuple .non = some false := id rfl
@[simp] theorem isi_lst_l : isiD .list (.lst xs) = some true := id rfl
@[simp] theorem isi_lst_t : isiD .list (.tup xs) = some false := id rfl
@[simp] theorem isi_lst_i : isiD .list (.int i) = some false := id rfl
@[simp] theorem isi_lst_b : isiD .list (.bl b) = some false := id rfl
@[simp] theorem isi_lst_n : isiD .list .non = some false := id rfl
@[simp] theorem cmp_lt : cmpD .lt (.int i) (.int j) = some (.bl (decide (i < j))) := id rfl
@[simp] theorem cmp_le : cmpD .le (.int i) (.int j) = some (.bl (decide (i ≤ j))) := id rfl
@[simp] theorem cmp_gt : cmpD .gt (.int i) (.int j) = some (.bl (decide (j < i))) := id rfl
@[simp] theorem cmp_ge : cmpD .ge (.int i) (.int j) = some (.bl (decide (j ≤ i))) := id rfl
@[simp] theorem cmp_eq_i : cmpD .eq (.int i) (.int j) = some (.bl (decide (i = j))) := by simp [cmpD, eqD, plain, eqv]; rfl
@[simp] theorem cmp_ne_i : cmpD .ne (.int i) (.int j) = some (.bl (!decide (i = j))) := by simp [cmpD, eqD, plain, eqv]; rfl
@[simp] theorem cmp_eq_b : cmpD .eq (.bl b) (.bl b2) = some (.bl (b == b2)) := by simp [cmpD, eqD, plain, eqv]
@[simp] theorem cmp_is_b : cmpD .is_ (.bl b) (.bl b2) = some (.bl (decide (b = b2))) := id rfl
@[simp] theorem cmp_isn_b : cmpD .isnot (.bl b) (.bl b2) = some (.bl (!decide (b = b2))) := id rfl
@[simp] theorem cmp_isn_n : cmpD .isnot .non .non = some (.bl false) := id rfl
@[simp] theorem cmp_isn_t : cmpD .isnot (.tup xs) .non = some (.bl true) := id rfl
open Classical in
theorem cmp_eq_p {d f : D} (h : pint 60 d = true) (g : pint 60 f = true) : cmpD .eq d f = some (.bl (decide (d = f))) := by
  show (eqD d f).map D.bl = _
  rw [eq_pint h g]; rfl
open Classical in
theorem cmp_ne_p {d f : D} (h : pint 60 d = true) (g : pint 60 f = true) : cmpD .ne d f = some (.bl (!decide (d = f))) := by
  show (eqD d f).map (fun k => D.bl (!k)) = _
  rw [eq_pint h g]; rfl
@[simp] theorem bin_add : binD .add (.int i) (.int j) = some (.int (i + j)) := id rfl
@[simp] theorem bin_sub : binD .sub (.int i) (.int j) = some (.int (i - j)) := id rfl
theorem bin_mul (h : mulOk i j = true) : binD .mul (.int i) (.int j) = some (.int (i * j)) := by simp [binD, h]
theorem bin_mod (h : j ≠ 0) : binD .mod (.int i) (.int j) = some (.int (modZ i j)) := by simp [binD, h]
theorem bin_div (h : divOk j = true) : binD .fdiv (.int i) (.int j) = some (.int (fdivZ i j)) := by simp [binD, h]
theorem bin_add_t (h : xs.length + ys.length ≤ big) : binD .add (.tup xs) (.tup ys) = some (.tup (xs ++ ys)) := by simp [binD, h]
theorem bin_add_l (h : xs.length + ys.length ≤ big) : binD .add (.lst xs) (.lst ys) = some (.lst (xs ++ ys)) := by simp [binD, h]
@[simp] theorem neg_int : negD (.int i) = some (.int (-i)) := id rfl
@[simp] theorem rev_t : revD (.tup xs) = some (.tup xs.reverse) := id rfl
end
end Pv
end
section
set_option maxRecDepth 100000
set_option maxHeartbeats 1000000
namespace K60
open Pv
/-! ### sums -/
def su : Nat → (Nat → Int) → Int
  | 0, _ => 0
  | n + 1, f => su n f + f n
theorem su_congr {f g : Nat → Int} : ∀ {n : Nat}, (∀ i, i < n → f i = g i) → su n f = su n g
  | 0, _ => rfl
  | n + 1, h => by simp only [su]; rw [su_congr fun i hi => h i (by omega), h n (by omega)]
theorem su_add {f g : Nat → Int} : ∀ {n : Nat}, su n (fun i => f i + g i) = su n f + su n g
  | 0 => rfl
  | n + 1 => by simp only [su]; rw [su_add]; omega
theorem su_sub {f g : Nat → Int} : ∀ {n : Nat}, su n (fun i => f i - g i) = su n f - su n g
  | 0 => rfl
  | n + 1 => by simp only [su]; rw [su_sub]; omega
theorem su_zero : ∀ {n : Nat}, su n (fun _ => 0) = 0
  | 0 => rfl
  | n + 1 => by simp only [su]; rw [su_zero]; rfl
theorem su_le {f g : Nat → Int} : ∀ {n : Nat}, (∀ i, i < n → f i ≤ g i) → su n f ≤ su n g
  | 0, _ => Int.le_refl _
  | n + 1, h => by
    simp only [su]
    have := su_le (n := n) fun i hi => h i (by omega)
    have := h n (by omega)
    omega
theorem su_lt {f g : Nat → Int} : ∀ {n : Nat}, (∀ i, i < n → f i ≤ g i) → (∃ i, i < n ∧ f i < g i) → su n f < su n g
  | 0, _, ⟨i, hi, _⟩ => by omega
  | n + 1, h, ⟨i, hi, hl⟩ => by
    simp only [su]
    have h1 := su_le (n := n) fun i hi => h i (by omega)
    have h2 := h n (by omega)
    by_cases e : i = n
    · subst e; omega
    · have := su_lt (n := n) (fun i hi => h i (by omega)) ⟨i, by omega, hl⟩
      omega
theorem su_nonneg {f : Nat → Int} {n : Nat} (h : ∀ i, i < n → 0 ≤ f i) : 0 ≤ su n f := by
  have := su_le (f := fun _ => 0) (g := f) h
  rw [su_zero] at this
  exact this
/-- one item alone -/
def one (k : Nat) (x : Int) (i : Nat) : Int := if i = k then x else 0
theorem su_one {k : Nat} {x : Int} : ∀ {n : Nat}, k < n → su n (one k x) = x
  | 0, h => by omega
  | n + 1, h => by
    simp only [su]
    by_cases e : k = n
    · subst e
      rw [su_congr (g := fun _ => 0) fun i hi => by unfold one; rw [if_neg (by omega)], su_zero]
      unfold one
      rw [if_pos rfl]
      omega
    · rw [su_one (by omega)]
      unfold one
      rw [if_neg (fun z => e z.symm)]
      omega
theorem su_swap {f : Nat → Nat → Int} {m : Nat} : ∀ {n : Nat}, su n (fun i => su m (f i)) = su m (fun j => su n (fun i => f i j))
  | 0 => by simp only [su]; rw [su_zero]
  | n + 1 => by
    simp only [su]
    rw [su_swap, ← su_add]
/-- equal sums: what is more at one place is less at another -/
theorem less_of {f g : Nat → Int} {n : Nat} (h : su n f = su n g) (h2 : ∃ i, i < n ∧ g i < f i) : ∃ j, j < n ∧ f j < g j := by
  apply Classical.byContradiction
  intro hn
  have hle : ∀ i, i < n → g i ≤ f i := fun i hi => by
    apply Classical.byContradiction
    intro z
    exact hn ⟨i, hi, by omega⟩
  have := su_lt hle h2
  omega
/-! ### grids -/
abbrev Gr := Nat → Nat → Int
abbrev Sw := Nat × Nat × Nat × Nat
def dl (x : Sw) (i j : Nat) : Int := (if i = x.1 then one x.2.2.1 1 j - one x.2.2.2 1 j else 0) + (if i = x.2.1 then one x.2.2.2 1 j - one x.2.2.1 1 j else 0)
def swp (a : Gr) (x : Sw) : Gr := fun i j => a i j + dl x i j
def okS (h w : Nat) (x : Sw) : Prop := x.1 < x.2.1 ∧ x.2.1 < h ∧ x.2.2.1 ≠ x.2.2.2 ∧ x.2.2.1 < w ∧ x.2.2.2 < w
def can (a : Gr) (x : Sw) : Prop := 0 < a x.1 x.2.2.2 ∧ 0 < a x.2.1 x.2.2.1
def endp : Gr → List Sw → Gr
  | a, [] => a
  | a, x :: r => endp (swp a x) r
def okp : Gr → List Sw → Prop
  | _, [] => True
  | a, x :: r => can a x ∧ okp (swp a x) r
def flip (x : Sw) : Sw := (x.1, x.2.1, x.2.2.2, x.2.2.1)
def back (l : List Sw) : List Sw := l.reverse.map flip
def Z (h w : Nat) (a : Gr) : Prop := ∀ i j, ¬(i < h ∧ j < w) → a i j = 0
def P (a : Gr) : Prop := ∀ i j, 0 ≤ a i j
def rowS (w : Nat) (a : Gr) (i : Nat) : Int := su w (a i)
def colS (h : Nat) (a : Gr) (j : Nat) : Int := su h fun i => a i j
def far (h w : Nat) (a b : Gr) : Int := su h fun i => su w fun j => ((a i j - b i j).natAbs : Int)
def same2 (h w : Nat) (a b : Gr) : Prop := (∀ i, i < h → rowS w a i = rowS w b i) ∧ ∀ j, j < w → colS h a j = colS h b j
theorem endp_append (a : Gr) (l m : List Sw) : endp a (l ++ m) = endp (endp a l) m := by
  induction l generalizing a with
  | nil => rfl
  | cons x r ih => exact ih _
theorem okp_append (a : Gr) (l m : List Sw) : okp a (l ++ m) ↔ okp a l ∧ okp (endp a l) m := by
  induction l generalizing a with
  | nil => simp [okp, endp]
  | cons x r ih => simp only [List.cons_append, okp, endp, ih]; exact and_assoc.symm
variable {h w : Nat} {a b : Gr} {x : Sw}
theorem flip_swp : swp (swp a x) (flip x) = a := by
  funext i j
  simp only [swp, dl, flip]
  split <;> split <;> omega
theorem dl_val (hx : okS h w x) (i j : Nat) : dl x i j = if i = x.1 ∧ j = x.2.2.1 then 1 else if i = x.1 ∧ j = x.2.2.2 then -1 else if i = x.2.1 ∧ j = x.2.2.2 then 1 else if i = x.2.1 ∧ j = x.2.2.1 then -1 else 0 := by
  obtain ⟨r, s, c, d⟩ := x
  obtain ⟨h1, h2, h3, h4, h5⟩ := hx
  simp only at h1 h2 h3 h4 h5
  simp only [dl, one]
  by_cases e1 : i = r <;> by_cases e2 : i = s <;> by_cases e3 : j = c <;> by_cases e4 : j = d <;> simp [e1, e2, e3, e4] <;> omega
theorem P_swp (hx : okS h w x) (hp : P a) (hc : can a x) : P (swp a x) := by
  intro i j
  have := hp i j
  simp only [swp]
  rw [dl_val hx]
  obtain ⟨h1, h2, h3, h4, h5⟩ := hx
  split
  · omega
  · split
    · rename_i e
      have := hc.1
      rw [e.1, e.2]; omega
    · split
      · omega
      · split
        · rename_i e
          have := hc.2
          rw [e.1, e.2]; omega
        · omega
theorem Z_swp (hx : okS h w x) (hz : Z h w a) : Z h w (swp a x) := by
  intro i j hn
  simp only [swp]
  rw [dl_val hx, hz i j hn]
  obtain ⟨h1, h2, h3, h4, h5⟩ := hx
  split
  · rename_i e; exact absurd ⟨by omega, by omega⟩ hn
  · split
    · rename_i e; exact absurd ⟨by omega, by omega⟩ hn
    · split
      · rename_i e; exact absurd ⟨by omega, by omega⟩ hn
      · split
        · rename_i e; exact absurd ⟨by omega, by omega⟩ hn
        · rfl
theorem can_flip (hx : okS h w x) (hp : P a) : can (swp a x) (flip x) := by
  obtain ⟨r, s, c, d⟩ := x
  have h1 := hp r c
  have h2 := hp s d
  have hx' := hx
  obtain ⟨g1, g2, g3, g4, g5⟩ := hx'
  simp only at g1 g2 g3 g4 g5
  refine ⟨?_, ?_⟩
  · show 0 < swp a (r, s, c, d) r c
    simp only [swp]
    rw [dl_val hx]
    simp
    omega
  · show 0 < swp a (r, s, c, d) s d
    simp only [swp]
    rw [dl_val hx]
    simp [show s ≠ r by omega]
    omega
theorem okS_flip (hx : okS h w x) : okS h w (flip x) := ⟨hx.1, hx.2.1, fun e => hx.2.2.1 e.symm, hx.2.2.2.2, hx.2.2.2.1⟩
theorem back_ok : ∀ {l : List Sw} {a : Gr}, (∀ x ∈ l, okS h w x) → P a → okp a l → okp (endp a l) (back l) ∧ endp (endp a l) (back l) = a
  | [], a, _, _, _ => ⟨trivial, rfl⟩
  | x :: r, a, hv, hp, ho => by
    have hx := hv x (by simp)
    obtain ⟨i1, i2⟩ := back_ok (l := r) (a := swp a x) (fun y hy => hv y (by simp [hy])) (P_swp hx hp ho.1) ho.2
    have e : back (x :: r) = back r ++ [flip x] := by simp [back]
    show okp (endp (swp a x) r) (back (x :: r)) ∧ endp (endp (swp a x) r) (back (x :: r)) = a
    rw [e, okp_append, endp_append, i2]
    exact ⟨⟨i1, can_flip hx hp, trivial⟩, flip_swp⟩
theorem okS_back {l : List Sw} (hv : ∀ x ∈ l, okS h w x) : ∀ x ∈ back l, okS h w x := by
  intro x hx
  simp only [back, List.mem_map, List.mem_reverse] at hx
  obtain ⟨y, hy, rfl⟩ := hx
  exact okS_flip (hv y hy)
theorem P_endp : ∀ {l : List Sw} {a : Gr}, (∀ x ∈ l, okS h w x) → P a → okp a l → P (endp a l)
  | [], _, _, hp, _ => hp
  | x :: r, a, hv, hp, ho => P_endp (a := swp a x) (l := r) (fun y hy => hv y (by simp [hy])) (P_swp (hv x (by simp)) hp ho.1) ho.2
theorem Z_endp : ∀ {l : List Sw} {a : Gr}, (∀ x ∈ l, okS h w x) → Z h w a → Z h w (endp a l)
  | [], _, _, hz => hz
  | x :: r, a, hv, hz => Z_endp (a := swp a x) (l := r) (fun y hy => hv y (by simp [hy])) (Z_swp (hv x (by simp)) hz)
theorem row_dl (hx : okS h w x) (i : Nat) : su w (dl x i) = 0 := by
  obtain ⟨h1, h2, h3, h4, h5⟩ := hx
  have e : dl x i = fun j => (if i = x.1 then one x.2.2.1 1 j - one x.2.2.2 1 j else 0) + (if i = x.2.1 then one x.2.2.2 1 j - one x.2.2.1 1 j else 0) := rfl
  rw [e, su_add]
  have e1 : ∀ c d, c < w → d < w → su w (fun j => one c 1 j - one d 1 j) = 0 := fun c d hc hd => by
    rw [su_sub, su_one hc, su_one hd]; rfl
  by_cases c1 : i = x.1 <;> by_cases c2 : i = x.2.1 <;> simp only [c1, c2, if_true, if_false]
  · rw [show x.1 = x.2.1 from c1.symm.trans c2] at h1; omega
  · have : ¬ x.1 = x.2.1 := by omega
    simp only [this, if_false]
    rw [e1 _ _ h4 h5, su_zero]; rfl
  · have : ¬ x.2.1 = x.1 := by omega
    simp only [this, if_false]
    rw [e1 _ _ h5 h4, su_zero]; rfl
  · rw [su_zero]; rfl
theorem col_dl (hx : okS h w x) (j : Nat) : su h (fun i => dl x i j) = 0 := by
  obtain ⟨h1, h2, h3, h4, h5⟩ := hx
  have e : (fun i => dl x i j) = fun i => one x.1 (one x.2.2.1 1 j - one x.2.2.2 1 j) i + one x.2.1 (one x.2.2.2 1 j - one x.2.2.1 1 j) i := rfl
  rw [e, su_add, su_one (by omega), su_one h2]
  omega
theorem row_swp (hx : okS h w x) (i : Nat) : rowS w (swp a x) i = rowS w a i := by
  unfold rowS
  rw [show swp a x i = fun j => a i j + dl x i j from rfl, su_add, row_dl hx]; omega
theorem col_swp (hx : okS h w x) (j : Nat) : colS h (swp a x) j = colS h a j := by
  unfold colS
  rw [show (fun i => swp a x i j) = fun i => a i j + dl x i j from rfl, su_add, col_dl hx]; omega
theorem same_endp : ∀ {l : List Sw} {a : Gr}, (∀ x ∈ l, okS h w x) → same2 h w (endp a l) a
  | [], a, _ => ⟨fun _ _ => rfl, fun _ _ => rfl⟩
  | x :: r, a, hv => by
    obtain ⟨i1, i2⟩ := same_endp (l := r) (a := swp a x) fun y hy => hv y (by simp [hy])
    have hx := hv x (by simp)
    exact ⟨fun i hi => (i1 i hi).trans (row_swp hx i), fun j hj => (i2 j hj).trans (col_swp hx j)⟩
/-- a swap that is wanted -/
def good (b a : Gr) (x : Sw) : Prop := b x.1 x.2.2.2 < a x.1 x.2.2.2 ∧ b x.2.1 x.2.2.1 < a x.2.1 x.2.2.1 ∧ (a x.1 x.2.2.1 < b x.1 x.2.2.1 ∨ a x.2.1 x.2.2.2 < b x.2.1 x.2.2.2)
theorem far_swp (hx : okS h w x) (hg : good b a x) : far h w (swp a x) b + 2 ≤ far h w a b := by
  obtain ⟨r, s, c, d⟩ := x
  obtain ⟨h1, h2, h3, h4, h5⟩ := id hx
  obtain ⟨g1, g2, g3⟩ := hg
  simp only at h1 h2 h3 h4 h5 g1 g2 g3
  obtain ⟨p, q, hpq, hs⟩ : ∃ p q : Int, p + q = 0 ∧ ((p = -1 ∧ q = 1 ∧ a r c < b r c) ∨ (p = 1 ∧ q = -1 ∧ a s d < b s d)) := by
    rcases g3 with g | g
    · exact ⟨-1, 1, rfl, .inl ⟨rfl, rfl, g⟩⟩
    · exact ⟨1, -1, rfl, .inr ⟨rfl, rfl, g⟩⟩
  have key : ∀ i j, ((swp a (r, s, c, d) i j - b i j).natAbs : Int) ≤ ((a i j - b i j).natAbs : Int) + (one r (one c p j + one d (-1) j) i + one s (one d q j + one c (-1) j) i) := by
    intro i j
    simp only [swp]
    rw [dl_val hx]
    simp only [one]
    by_cases e1 : i = r
    · subst e1
      have : ¬ i = s := by omega
      by_cases e3 : j = c
      · subst e3
        simp [this, h3]
        rcases hs with ⟨rfl, rfl, g⟩ | ⟨rfl, rfl, g⟩ <;> omega
      · by_cases e4 : j = d
        · subst e4
          simp [this, e3]
          omega
        · simp [this, e3, e4]
    · by_cases e2 : i = s
      · subst e2
        by_cases e3 : j = c
        · subst e3
          simp [e1, h3]
          omega
        · by_cases e4 : j = d
          · subst e4
            simp [e1, e3]
            rcases hs with ⟨rfl, rfl, g⟩ | ⟨rfl, rfl, g⟩ <;> omega
          · simp [e1, e3, e4]
      · simp [e1, e2]
  have s1 : far h w (swp a (r, s, c, d)) b ≤ su h (fun i => su w (fun j => ((a i j - b i j).natAbs : Int)) + (one r (p - 1) i + one s (q - 1) i)) := by
    refine su_le fun i _ => ?_
    have e : su w (fun j => ((a i j - b i j).natAbs : Int)) + (one r (p - 1) i + one s (q - 1) i) = su w (fun j => ((a i j - b i j).natAbs : Int) + (one r (one c p j + one d (-1) j) i + one s (one d q j + one c (-1) j) i)) := by
      rw [su_add]
      congr 1
      rw [su_add]
      congr 1
      · by_cases e : i = r
        · simp only [one, e, if_true]
          rw [show (fun j => (if j = c then p else 0) + (if j = d then -1 else 0)) = fun j => one c p j + one d (-1) j from rfl, su_add, su_one h4, su_one h5]; omega
        · simp only [one, e, if_false]; rw [su_zero]
      · by_cases e : i = s
        · simp only [one, e, if_true]
          rw [show (fun j => (if j = d then q else 0) + (if j = c then -1 else 0)) = fun j => one d q j + one c (-1) j from rfl, su_add, su_one h5, su_one h4]; omega
        · simp only [one, e, if_false]; rw [su_zero]
    rw [e]
    exact su_le fun j _ => key i j
  rw [su_add, su_add, su_one (by omega), su_one h2] at s1
  unfold far at s1 ⊢
  omega
theorem far_nonneg : 0 ≤ far h w a b := su_nonneg fun i _ => su_nonneg fun j _ => by omega
theorem good_can (hp : P b) (hg : good b a x) : can a x := ⟨by have := hp x.1 x.2.2.2; have := hg.1; omega, by have := hp x.2.1 x.2.2.1; have := hg.2.1; omega⟩
end K60
end
section
set_option maxRecDepth 100000
set_option maxHeartbeats 400000
namespace LawTop
open Pv
open PySem (Str)
abbrev F : List FD := fis.map FI.fd
theorem at_is_whole : F[0]? = some q_is_whole.fd := rfl
theorem c_is_whole {n : Nat} {th : Sto → Out D} {x0 x1 x2 : D} {d : D} {s s1 : Sto} (e : evSs ⟨callN F n, th⟩ b_is_whole [some x0, some x1, some x2] s = .ret d s1) : callN F (n + 1) 0 th [x0, x1, x2] s = .ok (fz s.length s1 d) (s1.take s.length) := call_of (fd := q_is_whole.fd) at_is_whole rfl e rfl
theorem cn_is_whole {n : Nat} {th : Sto → Out D} {x0 x1 x2 : D} {e1 : En} {s s1 : Sto} (e : evSs ⟨callN F n, th⟩ b_is_whole [some x0, some x1, some x2] s = .nx e1 s1) : callN F (n + 1) 0 th [x0, x1, x2] s = .ok .non (s1.take s.length) := call_nx (fd := q_is_whole.fd) at_is_whole rfl e
theorem at_is_tuple_of : F[1]? = some q_is_tuple_of.fd := rfl
theorem c_is_tuple_of {n : Nat} {th : Sto → Out D} {x0 x1 x2 : D} {d : D} {s s1 : Sto} (e : evSs ⟨callN F n, th⟩ b_is_tuple_of [some x0, some x1, some x2] s = .ret d s1) : callN F (n + 1) 1 th [x0, x1, x2] s = .ok (fz s.length s1 d) (s1.take s.length) := call_of (fd := q_is_tuple_of.fd) at_is_tuple_of rfl e rfl
theorem cn_is_tuple_of {n : Nat} {th : Sto → Out D} {x0 x1 x2 : D} {e1 : En} {s s1 : Sto} (e : evSs ⟨callN F n, th⟩ b_is_tuple_of [some x0, some x1, some x2] s = .nx e1 s1) : callN F (n + 1) 1 th [x0, x1, x2] s = .ok .non (s1.take s.length) := call_nx (fd := q_is_tuple_of.fd) at_is_tuple_of rfl e
theorem at_are_wholes : F[2]? = some q_are_wholes.fd := rfl
theorem c_are_wholes {n : Nat} {th : Sto → Out D} {x0 x1 x2 x3 : D} {d : D} {s s1 : Sto} (e : evSs ⟨callN F n, th⟩ b_are_wholes [some x0, some x1, some x2, some x3, none] s = .ret d s1) : callN F (n + 1) 2 th [x0, x1, x2, x3] s = .ok (fz s.length s1 d) (s1.take s.length) := call_of (fd := q_are_wholes.fd) at_are_wholes rfl e rfl
theorem cn_are_wholes {n : Nat} {th : Sto → Out D} {x0 x1 x2 x3 : D} {e1 : En} {s s1 : Sto} (e : evSs ⟨callN F n, th⟩ b_are_wholes [some x0, some x1, some x2, some x3, none] s = .nx e1 s1) : callN F (n + 1) 2 th [x0, x1, x2, x3] s = .ok .non (s1.take s.length) := call_nx (fd := q_are_wholes.fd) at_are_wholes rfl e
theorem at_is_grid : F[3]? = some q_is_grid.fd := rfl
theorem c_is_grid {n : Nat} {th : Sto → Out D} {x0 : D} {d : D} {s s1 : Sto} (e : evSs ⟨callN F n, th⟩ b_is_grid [some x0, none] s = .ret d s1) : callN F (n + 1) 3 th [x0] s = .ok (fz s.length s1 d) (s1.take s.length) := call_of (fd := q_is_grid.fd) at_is_grid rfl e rfl
theorem cn_is_grid {n : Nat} {th : Sto → Out D} {x0 : D} {e1 : En} {s s1 : Sto} (e : evSs ⟨callN F n, th⟩ b_is_grid [some x0, none] s = .nx e1 s1) : callN F (n + 1) 3 th [x0] s = .ok .non (s1.take s.length) := call_nx (fd := q_is_grid.fd) at_is_grid rfl e
theorem at_need_grid : F[4]? = some q_need_grid.fd := rfl
theorem c_need_grid {n : Nat} {th : Sto → Out D} {x0 : D} {d : D} {s s1 : Sto} (e : evSs ⟨callN F n, th⟩ b_need_grid [some x0] s = .ret d s1) : callN F (n + 1) 4 th [x0] s = .ok (fz s.length s1 d) (s1.take s.length) := call_of (fd := q_need_grid.fd) at_need_grid rfl e rfl
theorem cn_need_grid {n : Nat} {th : Sto → Out D} {x0 : D} {e1 : En} {s s1 : Sto} (e : evSs ⟨callN F n, th⟩ b_need_grid [some x0] s = .nx e1 s1) : callN F (n + 1) 4 th [x0] s = .ok .non (s1.take s.length) := call_nx (fd := q_need_grid.fd) at_need_grid rfl e
theorem at_margins_of : F[5]? = some q_margins_of.fd := rfl
theorem c_margins_of {n : Nat} {th : Sto → Out D} {x0 : D} {d : D} {s s1 : Sto} (e : evSs ⟨callN F n, th⟩ b_margins_of [some x0, none, none, none] s = .ret d s1) : callN F (n + 1) 5 th [x0] s = .ok (fz s.length s1 d) (s1.take s.length) := call_of (fd := q_margins_of.fd) at_margins_of rfl e rfl
theorem cn_margins_of {n : Nat} {th : Sto → Out D} {x0 : D} {e1 : En} {s s1 : Sto} (e : evSs ⟨callN F n, th⟩ b_margins_of [some x0, none, none, none] s = .nx e1 s1) : callN F (n + 1) 5 th [x0] s = .ok .non (s1.take s.length) := call_nx (fd := q_margins_of.fd) at_margins_of rfl e
theorem at_margins : F[6]? = some q_margins.fd := rfl
theorem c_margins {n : Nat} {th : Sto → Out D} {x0 : D} {d : D} {s s1 : Sto} (e : evSs ⟨callN F n, th⟩ b_margins [some x0] s = .ret d s1) : callN F (n + 1) 6 th [x0] s = .ok (fz s.length s1 d) (s1.take s.length) := call_of (fd := q_margins.fd) at_margins rfl e rfl
theorem cn_margins {n : Nat} {th : Sto → Out D} {x0 : D} {e1 : En} {s s1 : Sto} (e : evSs ⟨callN F n, th⟩ b_margins [some x0] s = .nx e1 s1) : callN F (n + 1) 6 th [x0] s = .ok .non (s1.take s.length) := call_nx (fd := q_margins.fd) at_margins rfl e
theorem at_is_swap : F[7]? = some q_is_swap.fd := rfl
theorem c_is_swap {n : Nat} {th : Sto → Out D} {x0 x1 : D} {d : D} {s s1 : Sto} (e : evSs ⟨callN F n, th⟩ b_is_swap [some x0, some x1, none, none, none, none] s = .ret d s1) : callN F (n + 1) 7 th [x0, x1] s = .ok (fz s.length s1 d) (s1.take s.length) := call_of (fd := q_is_swap.fd) at_is_swap rfl e rfl
theorem cn_is_swap {n : Nat} {th : Sto → Out D} {x0 x1 : D} {e1 : En} {s s1 : Sto} (e : evSs ⟨callN F n, th⟩ b_is_swap [some x0, some x1, none, none, none, none] s = .nx e1 s1) : callN F (n + 1) 7 th [x0, x1] s = .ok .non (s1.take s.length) := call_nx (fd := q_is_swap.fd) at_is_swap rfl e
theorem at_can_swap : F[8]? = some q_can_swap.fd := rfl
theorem c_can_swap {n : Nat} {th : Sto → Out D} {x0 x1 : D} {d : D} {s s1 : Sto} (e : evSs ⟨callN F n, th⟩ b_can_swap [some x0, some x1, none, none, none, none] s = .ret d s1) : callN F (n + 1) 8 th [x0, x1] s = .ok (fz s.length s1 d) (s1.take s.length) := call_of (fd := q_can_swap.fd) at_can_swap rfl e rfl
theorem cn_can_swap {n : Nat} {th : Sto → Out D} {x0 x1 : D} {e1 : En} {s s1 : Sto} (e : evSs ⟨callN F n, th⟩ b_can_swap [some x0, some x1, none, none, none, none] s = .nx e1 s1) : callN F (n + 1) 8 th [x0, x1] s = .ok .non (s1.take s.length) := call_nx (fd := q_can_swap.fd) at_can_swap rfl e
theorem at_after_swap : F[9]? = some q_after_swap.fd := rfl
theorem c_after_swap {n : Nat} {th : Sto → Out D} {x0 x1 : D} {d : D} {s s1 : Sto} (e : evSs ⟨callN F n, th⟩ b_after_swap [some x0, some x1, none, none, none, none, none, none, none] s = .ret d s1) : callN F (n + 1) 9 th [x0, x1] s = .ok (fz s.length s1 d) (s1.take s.length) := call_of (fd := q_after_swap.fd) at_after_swap rfl e rfl
theorem cn_after_swap {n : Nat} {th : Sto → Out D} {x0 x1 : D} {e1 : En} {s s1 : Sto} (e : evSs ⟨callN F n, th⟩ b_after_swap [some x0, some x1, none, none, none, none, none, none, none] s = .nx e1 s1) : callN F (n + 1) 9 th [x0, x1] s = .ok .non (s1.take s.length) := call_nx (fd := q_after_swap.fd) at_after_swap rfl e
theorem at_swapped : F[10]? = some q_swapped.fd := rfl
theorem c_swapped {n : Nat} {th : Sto → Out D} {x0 x1 : D} {d : D} {s s1 : Sto} (e : evSs ⟨callN F n, th⟩ b_swapped [some x0, some x1] s = .ret d s1) : callN F (n + 1) 10 th [x0, x1] s = .ok (fz s.length s1 d) (s1.take s.length) := call_of (fd := q_swapped.fd) at_swapped rfl e rfl
theorem cn_swapped {n : Nat} {th : Sto → Out D} {x0 x1 : D} {e1 : En} {s s1 : Sto} (e : evSs ⟨callN F n, th⟩ b_swapped [some x0, some x1] s = .nx e1 s1) : callN F (n + 1) 10 th [x0, x1] s = .ok .non (s1.take s.length) := call_nx (fd := q_swapped.fd) at_swapped rfl e
theorem at_need_alike : F[11]? = some q_need_alike.fd := rfl
theorem c_need_alike {n : Nat} {th : Sto → Out D} {x0 x1 : D} {d : D} {s s1 : Sto} (e : evSs ⟨callN F n, th⟩ b_need_alike [some x0, some x1] s = .ret d s1) : callN F (n + 1) 11 th [x0, x1] s = .ok (fz s.length s1 d) (s1.take s.length) := call_of (fd := q_need_alike.fd) at_need_alike rfl e rfl
theorem cn_need_alike {n : Nat} {th : Sto → Out D} {x0 x1 : D} {e1 : En} {s s1 : Sto} (e : evSs ⟨callN F n, th⟩ b_need_alike [some x0, some x1] s = .nx e1 s1) : callN F (n + 1) 11 th [x0, x1] s = .ok .non (s1.take s.length) := call_nx (fd := q_need_alike.fd) at_need_alike rfl e
theorem at_swap_for : F[12]? = some q_swap_for.fd := rfl
theorem c_swap_for {n : Nat} {th : Sto → Out D} {x0 x1 : D} {d : D} {s s1 : Sto} (e : evSs ⟨callN F n, th⟩ b_swap_for [some x0, some x1, none, none, none, none, none, none] s = .ret d s1) : callN F (n + 1) 12 th [x0, x1] s = .ok (fz s.length s1 d) (s1.take s.length) := call_of (fd := q_swap_for.fd) at_swap_for rfl e rfl
theorem cn_swap_for {n : Nat} {th : Sto → Out D} {x0 x1 : D} {e1 : En} {s s1 : Sto} (e : evSs ⟨callN F n, th⟩ b_swap_for [some x0, some x1, none, none, none, none, none, none] s = .nx e1 s1) : callN F (n + 1) 12 th [x0, x1] s = .ok .non (s1.take s.length) := call_nx (fd := q_swap_for.fd) at_swap_for rfl e
theorem at_swaps_between : F[13]? = some q_swaps_between.fd := rfl
theorem c_swaps_between {n : Nat} {th : Sto → Out D} {x0 x1 : D} {d : D} {s s1 : Sto} (e : evSs ⟨callN F n, th⟩ b_swaps_between [some x0, some x1, none, none, none] s = .ret d s1) : callN F (n + 1) 13 th [x0, x1] s = .ok (fz s.length s1 d) (s1.take s.length) := call_of (fd := q_swaps_between.fd) at_swaps_between rfl e rfl
theorem cn_swaps_between {n : Nat} {th : Sto → Out D} {x0 x1 : D} {e1 : En} {s s1 : Sto} (e : evSs ⟨callN F n, th⟩ b_swaps_between [some x0, some x1, none, none, none] s = .nx e1 s1) : callN F (n + 1) 13 th [x0, x1] s = .ok .non (s1.take s.length) := call_nx (fd := q_swaps_between.fd) at_swaps_between rfl e
theorem at_takes_swaps : F[14]? = some q_takes_swaps.fd := rfl
theorem c_takes_swaps {n : Nat} {th : Sto → Out D} {x0 x1 x2 : D} {d : D} {s s1 : Sto} (e : evSs ⟨callN F n, th⟩ b_takes_swaps [some x0, some x1, some x2, none, none] s = .ret d s1) : callN F (n + 1) 14 th [x0, x1, x2] s = .ok (fz s.length s1 d) (s1.take s.length) := call_of (fd := q_takes_swaps.fd) at_takes_swaps rfl e rfl
theorem cn_takes_swaps {n : Nat} {th : Sto → Out D} {x0 x1 x2 : D} {e1 : En} {s s1 : Sto} (e : evSs ⟨callN F n, th⟩ b_takes_swaps [some x0, some x1, some x2, none, none] s = .nx e1 s1) : callN F (n + 1) 14 th [x0, x1, x2] s = .ok .non (s1.take s.length) := call_nx (fd := q_takes_swaps.fd) at_takes_swaps rfl e
theorem at__law_cup : F[15]? = some q__law_cup.fd := rfl
theorem c__law_cup {n : Nat} {th : Sto → Out D} {x0 : D} {d : D} {s s1 : Sto} (e : evSs ⟨callN F n, th⟩ b__law_cup [some x0, none] s = .ret d s1) (hf : lowLoc s.length d = false) : callN F (n + 1) 15 th [x0] s = .ok (fz s.length s1 d) (s1.take s.length) := call_of (fd := q__law_cup.fd) at__law_cup rfl e hf
theorem cn__law_cup {n : Nat} {th : Sto → Out D} {x0 : D} {e1 : En} {s s1 : Sto} (e : evSs ⟨callN F n, th⟩ b__law_cup [some x0, none] s = .nx e1 s1) : callN F (n + 1) 15 th [x0] s = .ok .non (s1.take s.length) := call_nx (fd := q__law_cup.fd) at__law_cup rfl e
theorem at__law_roll : F[16]? = some q__law_roll.fd := rfl
theorem c__law_roll {n : Nat} {th : Sto → Out D} {x0 x1 : D} {d : D} {s s1 : Sto} (e : evSs ⟨callN F n, th⟩ b__law_roll [some x0, some x1, none, none] s = .ret d s1) : callN F (n + 1) 16 th [x0, x1] s = .ok (fz s.length s1 d) (s1.take s.length) := call_of (fd := q__law_roll.fd) at__law_roll rfl e rfl
theorem cn__law_roll {n : Nat} {th : Sto → Out D} {x0 x1 : D} {e1 : En} {s s1 : Sto} (e : evSs ⟨callN F n, th⟩ b__law_roll [some x0, some x1, none, none] s = .nx e1 s1) : callN F (n + 1) 16 th [x0, x1] s = .ok .non (s1.take s.length) := call_nx (fd := q__law_roll.fd) at__law_roll rfl e
theorem at__law_like : F[17]? = some q__law_like.fd := rfl
theorem c__law_like {n : Nat} {th : Sto → Out D} {x0 x1 : D} {d : D} {s s1 : Sto} (e : evSs ⟨callN F n, th⟩ b__law_like [some x0, some x1, none, none] s = .ret d s1) : callN F (n + 1) 17 th [x0, x1] s = .ok (fz s.length s1 d) (s1.take s.length) := call_of (fd := q__law_like.fd) at__law_like rfl e rfl
theorem cn__law_like {n : Nat} {th : Sto → Out D} {x0 x1 : D} {e1 : En} {s s1 : Sto} (e : evSs ⟨callN F n, th⟩ b__law_like [some x0, some x1, none, none] s = .nx e1 s1) : callN F (n + 1) 17 th [x0, x1] s = .ok .non (s1.take s.length) := call_nx (fd := q__law_like.fd) at__law_like rfl e
theorem at__law_done : F[18]? = some q__law_done.fd := rfl
theorem c__law_done {n : Nat} {th : Sto → Out D} {x0 x1 : D} {d : D} {s s1 : Sto} (e : evSs ⟨callN F n, th⟩ b__law_done [some x0, some x1, none, none, none, none, none, none, none, none, none] s = .ret d s1) : callN F (n + 1) 18 th [x0, x1] s = .ok (fz s.length s1 d) (s1.take s.length) := call_of (fd := q__law_done.fd) at__law_done rfl e rfl
theorem cn__law_done {n : Nat} {th : Sto → Out D} {x0 x1 : D} {e1 : En} {s s1 : Sto} (e : evSs ⟨callN F n, th⟩ b__law_done [some x0, some x1, none, none, none, none, none, none, none, none, none] s = .nx e1 s1) : callN F (n + 1) 18 th [x0, x1] s = .ok .non (s1.take s.length) := call_nx (fd := q__law_done.fd) at__law_done rfl e
theorem at__law_drawn : F[19]? = some q__law_drawn.fd := rfl
theorem c__law_drawn {n : Nat} {th : Sto → Out D} {x0 x1 x2 : D} {d : D} {s s1 : Sto} (e : evSs ⟨callN F n, th⟩ b__law_drawn [some x0, some x1, some x2, none, none, none, none, none, none, none, none] s = .ret d s1) : callN F (n + 1) 19 th [x0, x1, x2] s = .ok (fz s.length s1 d) (s1.take s.length) := call_of (fd := q__law_drawn.fd) at__law_drawn rfl e rfl
theorem cn__law_drawn {n : Nat} {th : Sto → Out D} {x0 x1 x2 : D} {e1 : En} {s s1 : Sto} (e : evSs ⟨callN F n, th⟩ b__law_drawn [some x0, some x1, some x2, none, none, none, none, none, none, none, none] s = .nx e1 s1) : callN F (n + 1) 19 th [x0, x1, x2] s = .ok .non (s1.take s.length) := call_nx (fd := q__law_drawn.fd) at__law_drawn rfl e
theorem at__law_far : F[20]? = some q__law_far.fd := rfl
theorem c__law_far {n : Nat} {th : Sto → Out D} {x0 x1 : D} {d : D} {s s1 : Sto} (e : evSs ⟨callN F n, th⟩ b__law_far [some x0, some x1, none, none, none, none] s = .ret d s1) : callN F (n + 1) 20 th [x0, x1] s = .ok (fz s.length s1 d) (s1.take s.length) := call_of (fd := q__law_far.fd) at__law_far rfl e rfl
theorem cn__law_far {n : Nat} {th : Sto → Out D} {x0 x1 : D} {e1 : En} {s s1 : Sto} (e : evSs ⟨callN F n, th⟩ b__law_far [some x0, some x1, none, none, none, none] s = .nx e1 s1) : callN F (n + 1) 20 th [x0, x1] s = .ok .non (s1.take s.length) := call_nx (fd := q__law_far.fd) at__law_far rfl e
theorem at__law_back : F[21]? = some q__law_back.fd := rfl
theorem c__law_back {n : Nat} {th : Sto → Out D} {x0 : D} {d : D} {s s1 : Sto} (e : evSs ⟨callN F n, th⟩ b__law_back [some x0, none, none, none, none] s = .ret d s1) : callN F (n + 1) 21 th [x0] s = .ok (fz s.length s1 d) (s1.take s.length) := call_of (fd := q__law_back.fd) at__law_back rfl e rfl
theorem cn__law_back {n : Nat} {th : Sto → Out D} {x0 : D} {e1 : En} {s s1 : Sto} (e : evSs ⟨callN F n, th⟩ b__law_back [some x0, none, none, none, none] s = .nx e1 s1) : callN F (n + 1) 21 th [x0] s = .ok .non (s1.take s.length) := call_nx (fd := q__law_back.fd) at__law_back rfl e
theorem at__law_leads : F[22]? = some q__law_leads.fd := rfl
theorem c__law_leads {n : Nat} {th : Sto → Out D} {x0 x1 x2 : D} {d : D} {s s1 : Sto} (e : evSs ⟨callN F n, th⟩ b__law_leads [some x0, some x1, some x2, none, none] s = .ret d s1) : callN F (n + 1) 22 th [x0, x1, x2] s = .ok (fz s.length s1 d) (s1.take s.length) := call_of (fd := q__law_leads.fd) at__law_leads rfl e rfl
theorem cn__law_leads {n : Nat} {th : Sto → Out D} {x0 x1 x2 : D} {e1 : En} {s s1 : Sto} (e : evSs ⟨callN F n, th⟩ b__law_leads [some x0, some x1, some x2, none, none] s = .nx e1 s1) : callN F (n + 1) 22 th [x0, x1, x2] s = .ok .non (s1.take s.length) := call_nx (fd := q__law_leads.fd) at__law_leads rfl e
theorem at__law_right : F[23]? = some q__law_right.fd := rfl
theorem c__law_right {n : Nat} {th : Sto → Out D} {x0 : D} {d : D} {s s1 : Sto} (e : evSs ⟨callN F n, th⟩ b__law_right [some x0, none, none, none, none, none, none, none, none, none, none, none, none] s = .ret d s1) : callN F (n + 1) 23 th [x0] s = .ok (fz s.length s1 d) (s1.take s.length) := call_of (fd := q__law_right.fd) at__law_right rfl e rfl
theorem cn__law_right {n : Nat} {th : Sto → Out D} {x0 : D} {e1 : En} {s s1 : Sto} (e : evSs ⟨callN F n, th⟩ b__law_right [some x0, none, none, none, none, none, none, none, none, none, none, none, none] s = .nx e1 s1) : callN F (n + 1) 23 th [x0] s = .ok .non (s1.take s.length) := call_nx (fd := q__law_right.fd) at__law_right rfl e
theorem at_law : F[24]? = some q_law.fd := rfl
theorem c_law {n : Nat} {th : Sto → Out D} {x0 : D} {d : D} {s s1 : Sto} (e : evSs ⟨callN F n, th⟩ b_law [some x0, none, none, none, none, none, none, none, none, none] s = .ret d s1) : callN F (n + 1) 24 th [x0] s = .ok (fz s.length s1 d) (s1.take s.length) := call_of (fd := q_law.fd) at_law rfl e rfl
theorem cn_law {n : Nat} {th : Sto → Out D} {x0 : D} {e1 : En} {s s1 : Sto} (e : evSs ⟨callN F n, th⟩ b_law [some x0, none, none, none, none, none, none, none, none, none] s = .nx e1 s1) : callN F (n + 1) 24 th [x0] s = .ok .non (s1.take s.length) := call_nx (fd := q_law.fd) at_law rfl e
end LawTop
end
section
set_option maxRecDepth 100000
set_option maxHeartbeats 200000
namespace K60
open Pv LawTop
open PySem (Str)
theorem w_whole {n : Nat} {th : Sto → Out D} {v lo hi : Int} {s : Sto} : callN F (n + 1) 0 th [.int v, .int lo, .int hi] s = .ok (.bl (decide (lo ≤ v) && decide (v ≤ hi))) s := by
  have e : evSs ⟨callN F n, th⟩ b_is_whole [some (.int v), some (.int lo), some (.int hi)] s = .ret (.bl (decide (lo ≤ v) && decide (v ≤ hi))) s := by
    by_cases h : lo ≤ v <;> simp [b_is_whole, h]
  rw [c_is_whole e]
  simp
theorem w_tuple {n : Nat} {th : Sto → Out D} {xs : List D} {lo hi : Int} {s : Sto} : callN F (n + 1) 1 th [.tup xs, .int lo, .int hi] s = .ok (.bl (decide (lo ≤ xs.length) && decide ((xs.length : Int) ≤ hi))) s := by
  have e : evSs ⟨callN F n, th⟩ b_is_tuple_of [some (.tup xs), some (.int lo), some (.int hi)] s = .ret (.bl (decide (lo ≤ xs.length) && decide ((xs.length : Int) ≤ hi))) s := by
    by_cases h : lo ≤ xs.length <;> simp [b_is_tuple_of, h]
  rw [c_is_tuple_of e]
  simp
theorem w_wholes {n : Nat} {th : Sto → Out D} {ns : List Int} {many lo hi : Int} {s : Sto} (hl : ns.length ≤ 5000) : callN F (n + 2) 2 th [.tup (iD ns), .int many, .int lo, .int hi] s = .ok (.bl ((decide (many ≤ ns.length) && decide ((ns.length : Int) ≤ many)) && ns.all fun v => decide (lo ≤ v) && decide (v ≤ hi))) s := by
  have e : evSs ⟨callN F (n + 1), th⟩ b_are_wholes [some (.tup (iD ns)), some (.int many), some (.int lo), some (.int hi), none] s = .ret (.bl ((decide (many ≤ ns.length) && decide ((ns.length : Int) ≤ many)) && ns.all fun v => decide (lo ≤ v) && decide (v ≤ hi))) s := by
    simp [b_are_wholes, w_tuple, wipeE]
    by_cases h : many ≤ ns.length ∧ (ns.length : Int) ≤ many
    · rw [if_pos h]
      unfold iD
      rw [loopC_bl (fun v => decide (lo ≤ v) && decide (v ≤ hi)) rfl (fun v _ => by simp [w_whole])]
      have : ns.length ≤ big := by unfold big; omega
      simp [this, h]
    · rw [if_neg h]
      simp
      intro h1 h2
      exact absurd ⟨h1, h2⟩ h
  rw [c_are_wholes e]
  simp
/-! ### grids as values -/
def rD (w : Nat) (a : Gr) (i : Nat) : D := .tup (iD ((List.range w).map (a i)))
def gD (h w : Nat) (a : Gr) : D := .tup ((List.range h).map (rD w a))
def swD (x : Sw) : D := .tup [.int (x.1 : Nat), .int (x.2.1 : Nat), .int (x.2.2.1 : Nat), .int (x.2.2.2 : Nat)]
def inG (h w : Nat) (a : Gr) : Bool := (List.range h).all fun i => ((List.range w).map (a i)).all fun v => decide (0 ≤ v) && decide (v ≤ 9)
theorem sum_su {f : Nat → Int} : ∀ {n : Nat}, ((List.range n).map f).sum = su n f
  | 0 => rfl
  | n + 1 => by rw [List.range_succ, List.map_append, List.sum_append, sum_su]; simp [su]
section
variable {n h w : Nat} {th : Sto → Out D} {a b : Gr} {x : Sw} {s : Sto}
theorem row_at {i : Nat} (hi : i < h) : ((List.range h).map (rD w a))[i]? = some (rD w a i) := by simp [hi]
theorem cell_at {i j : Nat} (hj : j < w) : (iD ((List.range w).map (a i)))[j]? = some (.int (a i j)) := by simp [iD, hj]
theorem big_of {m : Nat} (h : m ≤ 5000) : m ≤ big := by unfold big; omega
theorem w_grid (hh : 2 ≤ h ∧ h ≤ 5) (hw : 2 ≤ w ∧ w ≤ 5) : callN F (n + 3) 3 th [gD h w a] s = .ok (.bl (inG h w a)) s := by
  have r0 : (h : Int) ≤ 5 ∧ (2 : Int) ≤ h ∧ (w : Int) ≤ 5 ∧ (2 : Int) ≤ w := by omega
  have e : evSs ⟨callN F (n + 2), th⟩ b_is_grid [some (gD h w a), none] s = .ret (.bl (inG h w a)) s := by
    have r1 := row_at (w := w) (a := a) (show 0 < h by omega)
    simp only [gD]
    simp [b_is_grid, w_tuple, r1, r0, rD, wipeE]
    rw [loopC_bl (i := rD w a) (fun i => (((List.range w).map (a i)).all fun v => decide (0 ≤ v) && decide (v ≤ 9))) rfl (fun i _ => by
      have := w_wholes (n := n) (th := fun _ => Out.bad) (ns := (List.range w).map (a i)) (many := w) (lo := 0) (hi := 9) (s := s) (by simp; omega)
      simp [r1, rD, this])]
    have : h ≤ big := big_of (by omega)
    simp [this, inG]
  rw [c_is_grid e]
  simp
theorem w_need (hh : 2 ≤ h ∧ h ≤ 5) (hw : 2 ≤ w ∧ w ≤ 5) (hg : inG h w a = true) : callN F (n + 4) 4 th [gD h w a] s = .ok .non s := by
  have e : evSs ⟨callN F (n + 3), th⟩ b_need_grid [some (gD h w a)] s = .nx [some (gD h w a)] s := by
    simp [b_need_grid, w_grid hh hw, hg]
  rw [cn_need_grid e]
  simp
def mD (h w : Nat) (a : Gr) : D := .tup [.tup (iD ((List.range h).map (rowS w a))), .tup (iD ((List.range w).map (colS h a)))]
theorem w_margins_of (hh : 2 ≤ h ∧ h ≤ 5) (hw : 2 ≤ w ∧ w ≤ 5) : callN F (n + 1) 5 th [gD h w a] s = .ok (mD h w a) s := by
  have r1 := row_at (w := w) (a := a) (show 0 < h by omega)
  have hb : h ≤ big := big_of (by omega)
  have wb : w ≤ big := big_of (by omega)
  have e : evSs ⟨callN F n, th⟩ b_margins_of [some (gD h w a), none, none, none] s = .ret (mD h w a) s := by
    simp only [gD]
    simp [b_margins_of, r1, rD, wipeE, rng1 (show w ≤ 5000000 by omega)]
    rw [loopC_int (i := nI) (fun j => colS h a j) rfl (fun j hj => by
      simp only [List.mem_range] at hj
      simp [nI]
      rw [loopC_int (i := rD w a) (fun i => a i j) rfl (fun i _ => by simp [rD, cell_at hj])]
      simp [hb, sum_su, colS])]
    simp [wb]
    rw [loopC_int (i := rD w a) (fun i => rowS w a i) rfl (fun i _ => by simp [rD, sum_su, rowS])]
    simp [hb, mD]
  rw [c_margins_of e]
  rw [fz_id (pint_noloc 60 _ (by simp [mD, pint, pints, iD_pint]))]
  simp
theorem w_margins (hh : 2 ≤ h ∧ h ≤ 5) (hw : 2 ≤ w ∧ w ≤ 5) (hg : inG h w a = true) : callN F (n + 5) 6 th [gD h w a] s = .ok (mD h w a) s := by
  have e : evSs ⟨callN F (n + 4), th⟩ b_margins [some (gD h w a)] s = .ret (mD h w a) s := by
    simp [b_margins, w_need hh hw hg, w_margins_of hh hw]
  rw [c_margins e]
  rw [fz_id (pint_noloc 60 _ (by simp [mD, pint, pints, iD_pint]))]
  simp
end
end K60
end
section
set_option maxRecDepth 100000
set_option maxHeartbeats 400000
namespace K60
open Pv LawTop
open PySem (Str)
section
variable {n h w : Nat} {th : Sto → Out D} {a b : Gr} {x : Sw} {s : Sto}
theorem swD_eq : swD x = .tup (iD [(x.1 : Int), (x.2.1 : Int), (x.2.2.1 : Int), (x.2.2.2 : Int)]) := by simp [swD, iD]
theorem w_isswap (hh : 2 ≤ h ∧ h ≤ 5) (hw : 2 ≤ w ∧ w ≤ 5) (hx : okS h w x) : callN F (n + 3) 7 th [gD h w a, swD x] s = .ok (.bl true) s := by
  obtain ⟨h1, h2, h3, h4, h5⟩ := hx
  have r1 := row_at (w := w) (a := a) (show 0 < h by omega)
  have k1 : (x.1 : Int) < (x.2.1 : Int) ∧ (x.2.1 : Int) < (h : Int) ∧ (x.2.2.1 : Int) < (w : Int) ∧ (x.2.2.2 : Int) < (w : Int) := by omega
  have k3 : ¬ (x.2.2.1 : Int) = (x.2.2.2 : Int) := by omega
  have k2 : (0 : Int) ≤ x.1 ∧ (x.1 : Int) ≤ 4 ∧ (0 : Int) ≤ x.2.1 ∧ (x.2.1 : Int) ≤ 4 ∧ (0 : Int) ≤ x.2.2.1 ∧ (x.2.2.1 : Int) ≤ 4 ∧ (0 : Int) ≤ x.2.2.2 ∧ (x.2.2.2 : Int) ≤ 4 := by omega
  have hv := w_wholes (n := n) (th := fun _ => Out.bad) (ns := [(x.1 : Int), (x.2.1 : Int), (x.2.2.1 : Int), (x.2.2.2 : Int)]) (many := 4) (lo := 0) (hi := 4) (s := s) (by simp)
  rw [← swD_eq] at hv
  have e : evSs ⟨callN F (n + 2), th⟩ b_is_swap [some (gD h w a), some (swD x), none, none, none, none] s = .ret (.bl true) s := by
    simp only [gD]
    simp [b_is_swap, hv, k2]
    simp [swD, r1, rD, k1, k3]
  rw [c_is_swap e]
  simp
theorem at_row {i : Nat} (hi : i < h) : ((List.range h).map (rD w a))[i]? = some (rD w a i) := row_at hi
theorem w_canswap (hx : okS h w x) : callN F (n + 1) 8 th [gD h w a, swD x] s = .ok (.bl (decide (0 < a x.1 x.2.2.2) && decide (0 < a x.2.1 x.2.2.1))) s := by
  obtain ⟨h1, h2, h3, h4, h5⟩ := hx
  have e : evSs ⟨callN F n, th⟩ b_can_swap [some (gD h w a), some (swD x), none, none, none, none] s = .ret (.bl (decide (0 < a x.1 x.2.2.2) && decide (0 < a x.2.1 x.2.2.1))) s := by
    simp only [gD]
    by_cases q : 0 < a x.1 x.2.2.2 <;> simp [b_can_swap, swD, at_row (a := a) (w := w) (show x.1 < h by omega), at_row (a := a) (w := w) h2, rD, cell_at h5, cell_at h4, q]
  rw [c_can_swap e]
  simp
/-! ### a grid in cells -/
def upd (a : Gr) (i j : Nat) (v : Int) : Gr := fun i' j' => if i' = i ∧ j' = j then v else a i' j'
def rL (w : Nat) (a : Gr) (i : Nat) : D := .lst (iD ((List.range w).map (a i)))
def locs (m h : Nat) : List D := (List.range h).map fun k => .loc (m + k)
def sto (s : Sto) (h w : Nat) (a : Gr) : Sto := s ++ (List.range h).map (rL w a) ++ [.lst (locs s.length h)]
theorem sto_top : (sto s h w a).getD (s.length + h) .non = .lst (locs s.length h) := by
  rw [List.getD_eq_getElem?_getD]
  unfold sto
  rw [List.getElem?_append_right (by simp)]
  simp
theorem sto_row {i : Nat} (hi : i < h) : (sto s h w a).getD (s.length + i) .non = rL w a i := by
  rw [List.getD_eq_getElem?_getD]
  unfold sto
  rw [List.getElem?_append_left (by simp; omega), List.getElem?_append_right (by omega)]
  simp [hi]
theorem sto_top' : (sto s h w a)[s.length + h]? = some (.lst (locs s.length h)) := by
  unfold sto
  rw [List.getElem?_append_right (by simp)]
  simp
theorem sto_row' {i : Nat} (hi : i < h) : (sto s h w a)[s.length + i]? = some (rL w a i) := by
  unfold sto
  rw [List.getElem?_append_left (by simp; omega), List.getElem?_append_right (by omega)]
  simp [hi]
theorem locs_at {m i : Nat} (hi : i < h) : (locs m h)[i]? = some (.loc (m + i)) := by simp [locs, hi]
theorem sto_len : (sto s h w a).length = s.length + h + 1 := by simp [sto]; omega
theorem set_map {α : Type} {f g : Nat → α} {i m : Nat} {v : α} (hv : v = g i) (h : ∀ k, k < m → k ≠ i → f k = g k) : ((List.range m).map f).set i v = (List.range m).map g := by
  refine List.ext_getElem? fun k => ?_
  by_cases hk : i = k
  · subst hk
    by_cases hm : i < m
    · rw [List.getElem?_set_self (by simpa using hm)]; simp [hm, hv]
    · rw [List.getElem?_eq_none (by simpa using hm), List.getElem?_eq_none (by simpa using hm)]
  · rw [List.getElem?_set_ne hk]
    by_cases hm : k < m
    · simp [hm, h k hm (fun e => hk e.symm)]
    · rw [List.getElem?_eq_none (by simpa using hm), List.getElem?_eq_none (by simpa using hm)]
theorem sto_set {i j : Nat} {v : Int} (hi : i < h) (hj : j < w) : setC (s.length + i) (j : Int) (.int v) (sto s h w a) = .ok () (sto s h w (upd a i j v)) := by
  unfold setC
  rw [sto_row hi]
  simp only [rL]
  have e1 : setAt (iD ((List.range w).map (a i))) (j : Int) (.int v) = some (iD ((List.range w).map (upd a i j v i))) := by
    unfold setAt
    rw [if_pos ⟨by omega, by simp; omega⟩]
    congr 1
    unfold iD
    rw [List.map_map, List.map_map, Int.toNat_natCast]
    refine set_map ?_ fun k _ hk => ?_
    · simp [upd]
    · simp [upd, hk]
  rw [e1]
  unfold putC
  dsimp only
  rw [if_pos (by simp only [sto_len, Bool.and_eq_true, decide_eq_true_eq]; exact ⟨by omega, by simp only [below]; exact iD_below⟩)]
  congr 1
  unfold sto
  rw [List.set_append_left _ _ (by simp; omega), List.set_append_right _ _ (by omega)]
  congr 2
  rw [show s.length + i - s.length = i by omega]
  refine set_map rfl fun k _ hk => ?_
  simp only [rL]
  congr 2
  refine List.map_congr_left fun j' _ => ?_
  simp [upd, hk]
/-- a grid laid out in cells -/
theorem lay_of {c : Cl} {e : En} {i : Nat} {own : List (Str × Nat)} (hb : h ≤ 5000) (hv : e[0]? = some (some (gD h w a))) (he : ∀ d : D, ((wipeE e own).set i (some d))[i]? = some (some d)) :
    evE c (.thaw (.comp own (.nm i) (.of (.var 0)) .nil (.thaw (.bi .list (.cons (.var i) .nil))))) e s = .ok (.loc (s.length + h)) (sto s h w a) := by
  have hL : loopC (fun d s => (evT c (.nm i) d (wipeE e own) s).bind fun e1 s => (evIf c .nil e1 s).bind fun k s => if k = true then (evE c (.thaw (.bi .list (.cons (.var i) .nil))) e1 s).bind fun y s => .ok (some y) s else .ok none s) [] ((List.range h).map (rD w a)) s
      = .ok ((List.range (List.range h).length).map fun k => .loc (s.length + k)) (s ++ (List.range h).map fun k => .lst (iD ((List.range w).map (a k)))) := by
    refine loopC_thaw (fun k => iD ((List.range w).map (a k))) fun k _ s' => ?_
    simp [ev_var (he _), rD, iD_below]
  rw [ev_thaw', ev_comp', ev_i_of, ev_var hv]
  simp only [bind_ok, gD, walk_tup, liftO_some]
  rw [hL]
  simp only [noExc_ok, bind_ok]
  rw [if_pos (by simp; exact big_of hb)]
  simp only [bind_ok, thawO_lst]
  rw [if_pos (belows_locs fun k hk => by simp at hk ⊢; exact hk)]
  simp only [List.length_append, List.length_map, List.length_range]
  congr 1
end
end K60
end
section
set_option maxRecDepth 100000
set_option maxHeartbeats 400000
namespace K60
open Pv LawTop
open PySem (Str)
section
variable {n h w : Nat} {th : Sto → Out D} {a b : Gr} {x : Sw} {s : Sto} {c : Cl} {e : En}
theorem row_get {j : Nat} (hj : j < w) {i : Nat} : atD (iD ((List.range w).map (a i))) (j : Int) = some (.int (a i j)) := by
  rw [at_nat]; exact cell_at hj
/-- one place changes -/
theorem step_of {o : Op} {L I J i j : Nat} {r : CE} {k v : Int} (hL : e[L]? = some (some (.loc (s.length + h)))) (hI : e[I]? = some (some (.int (i : Nat)))) (hJ : e[J]? = some (some (.int (j : Nat)))) (hi : i < h) (hj : j < w)
    (hr : evE c r e (sto s h w a) = .ok (.int k) (sto s h w a)) (hv : binD o (.int (a i j)) (.int k) = some (.int v)) :
    evS c (.asg (.sub (.idx (.var L) (.var I)) (.var J)) (.bin o (.idx (.idx (.var L) (.var I)) (.var J)) r)) e (sto s h w a) = .nx e (sto s h w (upd a i j v)) := by
  simp [ev_var hL, ev_var hI, ev_var hJ, sto_top', locs_at hi, sto_row' hi, rL, cell_at hj, hr, hv, sto_set hi hj]
theorem gD_noloc : noloc (gD h w a) = true := by
  refine pint_noloc 3 _ ?_
  simp only [gD, pint, pints_iff, List.mem_map, List.mem_range]
  rintro d ⟨i, _, rfl⟩
  simp [rD, pint, iD_pint]
theorem gD_pint : pint 60 (gD h w a) = true := by
  simp only [gD, pint, pints_iff, List.mem_map, List.mem_range]
  rintro d ⟨i, _, rfl⟩
  simp [rD, pint, iD_pint]
/-- the cells back as a value -/
theorem take_of {L I : Nat} {own : List (Str × Nat)} (hb : h ≤ 5000) (hL : e[L]? = some (some (.loc (s.length + h)))) (he : ∀ d : D, ((wipeE e own).set I (some d))[I]? = some (some d)) :
    evE c (.bi .tuple (.cons (.comp own (.nm I) (.of (.var L)) .nil (.bi .tuple (.cons (.var I) .nil))) .nil)) e (sto s h w a) = .ok (gD h w a) (sto s h w a) := by
  have hW : walkD (sto s h w a) (.loc (s.length + h)) = some (locs s.length h, [(s.length + h, locs s.length h)]) := by
    simp only [walkD, sto_top]
  have hG : gok (sto s h w a) [(s.length + h, locs s.length h)] = true := by
    simp only [gok, sto_top, same_refl, Bool.and_self]
  have hC : loopC (fun d s => (evT c (.nm I) d (wipeE e own) s).bind fun e1 s => (evIf c .nil e1 s).bind fun k s => if k = true then (evE c (.bi .tuple (.cons (.var I) .nil)) e1 s).bind fun y s => .ok (some y) s else .ok none s) [(s.length + h, locs s.length h)] (locs s.length h) (sto s h w a)
      = .ok ((List.range h).map (rD w a)) (sto s h w a) := by
    unfold locs at hG ⊢
    refine loopC_of (i := fun k => D.loc (s.length + k)) (rD w a) hG fun k hk => ?_
    simp only [List.mem_range] at hk
    simp [ev_var (he _), sto_row' hk, rL, rD]
  rw [ev_bi, ev_cons, ev_comp', ev_i_of, ev_var hL]
  simp only [bind_ok, hW, liftO_some, hC, noExc_ok]
  rw [if_pos (by simp; exact big_of hb)]
  simp [gD]
theorem sto_take : (sto s h w a).take s.length = s := by simp [sto]
theorem swp_upd (hx : okS h w x) : upd (upd (upd (upd a x.1 x.2.2.1 (a x.1 x.2.2.1 + 1)) x.2.1 x.2.2.2 (a x.2.1 x.2.2.2 + 1)) x.1 x.2.2.2 (a x.1 x.2.2.2 - 1)) x.2.1 x.2.2.1 (a x.2.1 x.2.2.1 - 1) = swp a x := by
  funext i j
  simp only [swp]
  rw [dl_val hx]
  obtain ⟨r, s, c, d⟩ := x
  obtain ⟨h1, h2, h3, h4, h5⟩ := hx
  simp only at h1 h2 h3 h4 h5 ⊢
  simp only [upd]
  by_cases e1 : i = r
  · subst e1
    have : ¬ i = s := by omega
    by_cases e3 : j = c
    · subst e3; simp [this, h3]
    · by_cases e4 : j = d
      · subst e4; simp [this, e3]; omega
      · simp [this, e3, e4]
  · by_cases e2 : i = s
    · subst e2
      by_cases e3 : j = c
      · subst e3; simp [e1, h3]; omega
      · by_cases e4 : j = d
        · subst e4; simp [e1, e3]
        · simp [e1, e3, e4]
    · simp [e1, e2]
theorem w_after (hh : h ≤ 5) (hx : okS h w x) : callN F (n + 1) 9 th [gD h w a, swD x] s = .ok (gD h w (swp a x)) s := by
  have hx' := hx
  obtain ⟨h1, h2, h3, h4, h5⟩ := hx'
  have n1 : ¬ x.2.1 = x.1 := by omega
  have n2 : ¬ x.1 = x.2.1 := by omega
  have n3 : ¬ x.2.2.2 = x.2.2.1 := fun z => h3 z.symm
  have e : evSs ⟨callN F n, th⟩ b_after_swap [some (gD h w a), some (swD x), none, none, none, none, none, none, none] s = .ret (gD h w (swp a x)) (sto s h w (swp a x)) := by
    unfold b_after_swap
    rw [ev_ss_cons]
    have s1 : ∀ a0 : D, evS ⟨callN F n, th⟩ (.asg (.tp (.cons (.nm 3) (.cons (.nm 4) (.cons (.nm 5) (.cons (.nm 6) .nil))))) (.var 1)) [some a0, some (swD x), none, none, none, none, none, none, none] s = .nx [some a0, some (swD x), none, some (.int (x.1 : Nat)), some (.int (x.2.1 : Nat)), some (.int (x.2.2.1 : Nat)), some (.int (x.2.2.2 : Nat)), none, none] s := fun a0 => by
      simp [swD]
    rw [s1, seqS_nx, ev_ss_cons, ev_s_asg, lay_of (h := h) (w := w) (a := a) (by omega) rfl (fun _ => rfl)]
    simp only [bind_ok, ev_t_nm, toS_ok, seqS_nx, List.set]
    rw [ev_ss_cons, step_of (i := x.1) (j := x.2.2.1) rfl rfl rfl (by omega) h4 (ev_lit) (bin_add), seqS_nx]
    rw [ev_ss_cons, step_of (i := x.2.1) (j := x.2.2.2) rfl rfl rfl h2 h5 (ev_lit) (bin_add), seqS_nx]
    rw [ev_ss_cons, step_of (i := x.1) (j := x.2.2.2) rfl rfl rfl (by omega) h5 (ev_lit) (bin_sub), seqS_nx]
    rw [ev_ss_cons, step_of (i := x.2.1) (j := x.2.2.1) rfl rfl rfl h2 h4 (ev_lit) (bin_sub), seqS_nx]
    rw [ev_ss_cons, ev_s_ret, take_of (h := h) (w := w) (by omega) rfl (fun _ => rfl), thenS_ok, seqS_ret]
    have u : ∀ p : Gr, p = swp a x → OutS.ret (gD h w p) (sto s h w p) = .ret (gD h w (swp a x)) (sto s h w (swp a x)) := fun p hp => by rw [hp]
    refine u _ ?_
    rw [← swp_upd hx]
    simp [upd, n1, n2, n3, h3]
  rw [c_after_swap e, fz_id gD_noloc, sto_take]
end
end K60
end
section
set_option maxRecDepth 100000
set_option maxHeartbeats 400000
namespace K60
open Pv LawTop
open PySem (Str)
@[simp] theorem ev_s_for {c : Cl} {t : Tg} {it : CI} {b : CSs} {e : En} {s : Sto} : evS c (.for_ t it b) e s = thenS (evI c it e s) e fun w s1 => loopS (fun d e s => thenS (evT c t d e s) e fun e1 s1 => evSs c b e1 s1) w.2 w.1 e s1 := by rw [evS]
section
variable {n h w : Nat} {th : Sto → Out D} {a b : Gr} {x : Sw} {s : Sto} {c : Cl} {e : En}
theorem mD_pint : pint 60 (mD h w a) = true := by simp [mD, pint, pints, iD_pint]
theorem mD_noloc : noloc (mD h w a) = true := pint_noloc 60 _ mD_pint
theorem mD_eq (hs : same2 h w a b) : mD h w a = mD h w b := by
  unfold mD
  rw [show (List.range h).map (rowS w a) = (List.range h).map (rowS w b) from List.map_congr_left fun i hi => hs.1 i (List.mem_range.mp hi), show (List.range w).map (colS h a) = (List.range w).map (colS h b) from List.map_congr_left fun i hi => hs.2 i (List.mem_range.mp hi)]
theorem w_swapped (hh : 2 ≤ h ∧ h ≤ 5) (hw : 2 ≤ w ∧ w ≤ 5) (hg : inG h w a = true) (hx : okS h w x) (hc : can a x) : callN F (n + 5) 10 th [gD h w a, swD x] s = .ok (gD h w (swp a x)) s := by
  have e : evSs ⟨callN F (n + 4), th⟩ b_swapped [some (gD h w a), some (swD x)] s = .ret (gD h w (swp a x)) s := by
    simp [b_swapped, w_need hh hw hg, w_isswap hh hw hx, w_canswap hx, hc.1, hc.2, w_after hh.2 hx]
  rw [c_swapped e, fz_id gD_noloc]
  simp
theorem w_alike (hh : 2 ≤ h ∧ h ≤ 5) (hw : 2 ≤ w ∧ w ≤ 5) (hg : inG h w a = true) (hg2 : inG h w b = true) (hs : same2 h w a b) : callN F (n + 5) 11 th [gD h w a, gD h w b] s = .ok .non s := by
  have e : evSs ⟨callN F (n + 4), th⟩ b_need_alike [some (gD h w a), some (gD h w b)] s = .nx [some (gD h w a), some (gD h w b)] s := by
    simp [b_need_alike, w_need hh hw hg, w_need hh hw hg2, w_margins_of hh hw, mD_eq hs, fz_id mD_noloc, cmp_ne_p mD_pint mD_pint]
  rw [cn_need_alike e]
  simp
theorem takes_loop {c : Cl} {body : D → En → Sto → OutS} {A B V : Option D} (hb : ∀ (cur : Gr) (l : Option D) (x : Sw), okS h w x → can cur x → body (swD x) [A, B, V, some (gD h w cur), l] s = .nx [A, B, V, some (gD h w (swp cur x)), some (swD x)] s) :
    ∀ (sw : List Sw) (cur : Gr) (l : Option D), (∀ x ∈ sw, okS h w x) → okp cur sw → ∃ l', loopS body [] (sw.map swD) [A, B, V, some (gD h w cur), l] s = .nx [A, B, V, some (gD h w (endp cur sw)), l'] s
  | [], cur, l, _, _ => ⟨l, by simp [loopS, endp]⟩
  | x :: r, cur, l, hv, ho => by
    obtain ⟨l', e⟩ := takes_loop (c := c) hb r (swp cur x) (some (swD x)) (fun y hy => hv y (by simp [hy])) ho.2
    refine ⟨l', ?_⟩
    simp only [List.map_cons, loopS, gok_nil, if_true]
    rw [hb cur l x (hv x (by simp)) ho.1]
    exact e
open Classical in
theorem w_takes (hh : 2 ≤ h ∧ h ≤ 5) (hw : 2 ≤ w ∧ w ≤ 5) (hg : inG h w a = true) (hg2 : inG h w b = true) (hs : same2 h w a b) {sw : List Sw} (hl : sw.length ≤ 2000) (hv : ∀ x ∈ sw, okS h w x) (ho : okp a sw) :
    callN F (n + 6) 14 th [gD h w a, gD h w b, .tup (sw.map swD)] s = .ok (.bl (decide (gD h w (endp a sw) = gD h w b))) s := by
  have hl2 : (sw.length : Int) ≤ 2000 := by omega
  have e : evSs ⟨callN F (n + 5), th⟩ b_takes_swaps [some (gD h w a), some (gD h w b), some (.tup (sw.map swD)), none, none] s = .ret (.bl (decide (gD h w (endp a sw) = gD h w b))) s := by
    have hC : loopC (fun d s => (evT ⟨callN F (n + 5), th⟩ (.nm 4) d (wipeE [some (gD h w a), some (gD h w b), some (.tup (sw.map swD)), none, none] [("swap", 4)]) s).bind fun e1 s => (evIf ⟨callN F (n + 5), th⟩ .nil e1 s).bind fun k s => if k = true then (evE ⟨callN F (n + 5), th⟩ (.call 7 (.cons (.var 0) (.cons (.var 4) .nil))) e1 s).bind fun y s => .ok (some y) s else .ok none s) [] (sw.map swD) s = .ok (bD (sw.map fun _ => true)) s := by
      refine loopC_bl (i := swD) (fun _ => true) rfl fun x hx => ?_
      simp [wipeE, w_isswap hh hw (hv x hx)]
    have hA : ((sw.map fun _ => true).all id) = true := by simp
    have hB : sw.length ≤ big := big_of (by omega)
    unfold b_takes_swaps
    rw [ev_ss_cons]
    simp only [ev_s_exp, ev_call, ev_cons, ev_v0, ev_v1, ev_nil, bind_ok, w_alike hh hw hg hg2 hs, toS_ok, seqS_nx]
    rw [ev_ss_cons, ev_s_ife, ev_or, ev_not]
    simp only [ev_call, ev_cons, ev_v2, ev_lit, ev_glo, ev_nil, bind_ok, w_tuple, List.length_map, truth_bl]
    rw [show (decide ((0 : Int) ≤ (sw.length : Int)) && decide ((sw.length : Int) ≤ 2000)) = true by simp [hl2]]
    simp only [Bool.not_true, bind_ok, truth_bl, Bool.false_eq_true, if_false, ev_not, ev_bi, ev_cons, ev_nil, ev_comp', ev_i_of, ev_v2, walk_tup, liftO_some, hC, noExc_ok, bD_len, List.length_map]
    rw [if_pos hB]
    simp only [bind_ok, List.map_cons, List.map_nil, rd_lst', bi_all, hA, lift_some, truth_bl, Bool.not_true, thenS_ok, Bool.false_eq_true, if_false, ev_ss_nil, seqS_nx]
    rw [ev_ss_cons, ev_s_asg]
    simp only [ev_v0, bind_ok, ev_t_nm, toS_ok, seqS_nx, List.set]
    rw [ev_ss_cons, ev_s_for, ev_i_of, ev_v2]
    simp only [bind_ok, walk_tup, liftO_some, thenS_ok]
    obtain ⟨l', el⟩ := takes_loop (s := s) (c := ⟨callN F (n + 5), th⟩) (h := h) (w := w) (A := some (gD h w a)) (B := some (gD h w b)) (V := some (.tup (sw.map swD)))
      (body := fun d e s => thenS (evT ⟨callN F (n + 5), th⟩ (.nm 4) d e s) e fun e1 s1 => evSs ⟨callN F (n + 5), th⟩ (.cons (.ife (.not (.call 8 (.cons (.var 3) (.cons (.var 4) .nil)))) (.cons (.ret (.lit (.bl false))) .nil) .nil) (.cons (.asg (.nm 3) (.call 9 (.cons (.var 3) (.cons (.var 4) .nil)))) .nil)) e1 s1)
      (fun cur l x hx hc => by simp [w_canswap hx, hc.1, hc.2, w_after hh.2 hx]) sw a none hv ho
    rw [el, seqS_nx]
    simp [fz_id gD_noloc, cmp_eq_p gD_pint gD_pint]
  rw [c_takes_swaps e]
  simp
end
end K60
end
section
set_option maxRecDepth 100000
set_option maxHeartbeats 400000
namespace K60
open Pv LawTop
open PySem (Str)
theorem first_of {p : Nat → Bool} : ∀ {l : List Nat}, (∃ j, j ∈ l ∧ p j = true) → ∃ k, k ∈ l ∧ p k = true ∧ (l.filterMap fun j => if p j = true then some (nI j) else none)[0]? = some (nI k)
  | [], ⟨_, h, _⟩ => by simp at h
  | a :: r, h => by
    by_cases q : p a = true
    · exact ⟨a, by simp, q, by simp [q]⟩
    · obtain ⟨j, hj, pj⟩ := h
      have hj : j ∈ r := by
        rcases List.mem_cons.mp hj with e | e
        · subst e; exact absurd pj q
        · exact e
      obtain ⟨k, h1, h2, h3⟩ := first_of (p := p) ⟨j, hj, pj⟩
      refine ⟨k, by simp [h1], h2, ?_⟩
      rw [List.filterMap_cons_none (by simp [q])]
      exact h3
theorem loopS_find {α : Type} {body : D → En → Sto → OutS} {gd : Gd} {s : Sto} {i : α → D} {Inv : En → Prop} {Pv : D → Prop} {N : α → Prop} (hg : gok s gd = true) :
    ∀ {xs : List α} {e : En}, Inv e → (∀ x ∈ xs, ∀ e, Inv e → (∃ e', body (i x) e s = .nx e' s ∧ Inv e' ∧ N x) ∨ ∃ v, body (i x) e s = .ret v s ∧ Pv v) →
      (∃ e', loopS body gd (xs.map i) e s = .nx e' s ∧ Inv e' ∧ ∀ x ∈ xs, N x) ∨ ∃ v, loopS body gd (xs.map i) e s = .ret v s ∧ Pv v
  | [], e, he, _ => .inl ⟨e, by simp [loopS, hg], he, by simp⟩
  | x :: r, e, he, h => by
    simp only [List.map_cons, loopS, hg, if_true]
    rcases h x (by simp) e he with ⟨e1, h1, h2, h3⟩ | ⟨v, h1, h2⟩
    · rw [h1]
      rcases loopS_find hg (xs := r) h2 (fun y hy => h y (by simp [hy])) with ⟨e2, g1, g2, g3⟩ | ⟨v, g1, g2⟩
      · refine .inl ⟨e2, g1, g2, fun y hy => ?_⟩
        rcases List.mem_cons.mp hy with z | z
        · rw [z]; exact h3
        · exact g3 y z
      · exact .inr ⟨v, g1, g2⟩
    · rw [h1]
      exact .inr ⟨v, rfl, h2⟩
section
variable {n h w : Nat} {th : Sto → Out D} {a b : Gr} {x : Sw} {s : Sto} {c : Cl} {e : En}
theorem gD_eq (h1 : ∀ i j, i < h → j < w → a i j = b i j) : gD h w a = gD h w b := by
  unfold gD
  congr 1
  refine List.map_congr_left fun i hi => ?_
  unfold rD
  congr 2
  exact List.map_congr_left fun j hj => h1 i j (List.mem_range.mp hi) (List.mem_range.mp hj)
theorem le_same (hs : same2 h w a b) (hl : ∀ i, i < h → ∀ j, j < w → a i j ≤ b i j) : ∀ i j, i < h → j < w → a i j = b i j := by
  intro i j hi hj
  apply Classical.byContradiction
  intro hn
  have := su_lt (f := a i) (g := b i) (n := w) (fun j hj => hl i hi j hj) ⟨j, hj, by have := hl i hi j hj; omega⟩
  have e := hs.1 i hi
  unfold rowS at e
  omega
def b4 : CSs := (.cons (.ife (.cmp .gt (.idx (.idx (.var 0) (.var 3)) (.var 4)) (.idx (.idx (.var 1) (.var 3)) (.var 4))) (.cons (.asg (.nm 5) (.idx (.comp [("at", 7)] (.nm 7) (.range (.cons (.var 2) .nil)) (.cons (.cmp .lt (.idx (.idx (.var 0) (.var 3)) (.var 7)) (.idx (.idx (.var 1) (.var 3)) (.var 7))) .nil) (.var 7)) (.lit (.int 0)))) (.cons (.asg (.nm 6) (.idx (.comp [("at", 7)] (.nm 7) (.range (.cons (.bi .len (.cons (.var 0) .nil)) .nil)) (.cons (.cmp .gt (.idx (.idx (.var 0) (.var 7)) (.var 5)) (.idx (.idx (.var 1) (.var 7)) (.var 5))) .nil) (.var 7)) (.lit (.int 0)))) (.cons (.ret (.ite (.cmp .lt (.var 3) (.var 6)) (.tup (.cons (.var 3) (.cons (.var 6) (.cons (.var 5) (.cons (.var 4) .nil))))) (.tup (.cons (.var 6) (.cons (.var 3) (.cons (.var 4) (.cons (.var 5) .nil))))))) .nil))) .nil) .nil)
def ok2 (h w : Nat) (a b : Gr) (v : D) : Prop := ∃ x, okS h w x ∧ good b a x ∧ v = swD x
theorem fm_len {p : Nat → Bool} {m : Nat} : ((List.range m).filterMap fun j => if p j = true then some (nI j) else none).length ≤ m := by
  have := List.length_filterMap_le (fun j => if p j = true then some (nI j) else none) (List.range m)
  simpa using this
theorem inner_step (hh : 2 ≤ h ∧ h ≤ 5) (hw : 2 ≤ w ∧ w ≤ 5) (hs : same2 h w a b) {r d : Nat} (hr : r < h) (hd : d < w) (x4 x5 x6 x7 : Option D) :
    (evSs c b4 [some (gD h w a), some (gD h w b), some (.int (w : Nat)), some (.int (r : Nat)), some (.int (d : Nat)), x5, x6, x7] s = .nx [some (gD h w a), some (gD h w b), some (.int (w : Nat)), some (.int (r : Nat)), some (.int (d : Nat)), x5, x6, x7] s ∧ ¬ b r d < a r d) ∨
    ∃ v, evSs c b4 [some (gD h w a), some (gD h w b), some (.int (w : Nat)), some (.int (r : Nat)), some (.int (d : Nat)), x5, x6, x7] s = .ret v s ∧ ok2 h w a b v := by
  by_cases q : b r d < a r d
  case neg =>
    refine .inl ⟨?_, q⟩
    simp only [gD]
    simp [b4, at_row (a := a) (w := w) hr, at_row (a := b) (w := w) hr, rD, cell_at hd, q]
  case pos =>
    right
    obtain ⟨c1, hc1, lc1⟩ := less_of (f := a r) (g := b r) (hs.1 r hr) ⟨d, hd, q⟩
    obtain ⟨c0, m0, p0, e0⟩ := first_of (p := fun j => decide (a r j < b r j)) (l := List.range w) ⟨c1, List.mem_range.mpr hc1, decide_eq_true lc1⟩
    have hc0 := List.mem_range.mp m0
    have p0 := of_decide_eq_true p0
    obtain ⟨s1, hs1, ls1⟩ := less_of (f := fun i => b i c0) (g := fun i => a i c0) (hs.2 c0 hc0).symm ⟨r, hr, p0⟩
    obtain ⟨s0, m1, p1, e1⟩ := first_of (p := fun j => decide (b j c0 < a j c0)) (l := List.range h) ⟨s1, List.mem_range.mpr hs1, decide_eq_true ls1⟩
    have hs0 := List.mem_range.mp m1
    have p1 := of_decide_eq_true p1
    have hrs : r ≠ s0 := fun z => by subst z; omega
    have hcd : c0 ≠ d := fun z => by subst z; omega
    have L1 := Nat.le_trans (fm_len (p := fun j => decide (a r j < b r j)) (m := w)) (big_of (m := w) (by omega))
    have L2 := Nat.le_trans (fm_len (p := fun j => decide (b j c0 < a j c0)) (m := h)) (big_of (m := h) (by omega))
    have R : ∀ vv : D, vv = (if r < s0 then swD (r, s0, c0, d) else swD (s0, r, d, c0)) → evSs c b4 [some (gD h w a), some (gD h w b), some (.int (w : Nat)), some (.int (r : Nat)), some (.int (d : Nat)), x5, x6, x7] s = .ret vv s := by
      intro vv hvv
      have A1 : loopC (fun dd s => (evT c (.nm 7) dd (wipeE [some (gD h w a), some (gD h w b), some (.int (w : Nat)), some (.int (r : Nat)), some (.int (d : Nat)), x5, x6, x7] [("at", 7)]) s).bind fun e1 s => (evIf c (.cons (.cmp .lt (.idx (.idx (.var 0) (.var 3)) (.var 7)) (.idx (.idx (.var 1) (.var 3)) (.var 7))) .nil) e1 s).bind fun k s => if k = true then (evE c (.var 7) e1 s).bind fun y s => .ok (some y) s else .ok none s) [] ((List.range w).map nI) s
          = .ok ((List.range w).filterMap fun j => if decide (a r j < b r j) = true then some (nI j) else none) s := by
        refine loopC_fo (i := nI) (fun j => if decide (a r j < b r j) = true then some (nI j) else none) rfl fun j hj => ?_
        have hj := List.mem_range.mp hj
        simp only [gD]
        by_cases z : a r j < b r j <;> simp [nI, wipeE, at_row (a := a) (w := w) hr, at_row (a := b) (w := w) hr, rD, cell_at hj, z]
      have A2 : loopC (fun dd s => (evT c (.nm 7) dd (wipeE [some (gD h w a), some (gD h w b), some (.int (w : Nat)), some (.int (r : Nat)), some (.int (d : Nat)), some (.int (c0 : Nat)), x6, x7] [("at", 7)]) s).bind fun e1 s => (evIf c (.cons (.cmp .gt (.idx (.idx (.var 0) (.var 7)) (.var 5)) (.idx (.idx (.var 1) (.var 7)) (.var 5))) .nil) e1 s).bind fun k s => if k = true then (evE c (.var 7) e1 s).bind fun y s => .ok (some y) s else .ok none s) [] ((List.range h).map nI) s
          = .ok ((List.range h).filterMap fun j => if decide (b j c0 < a j c0) = true then some (nI j) else none) s := by
        refine loopC_fo (i := nI) (fun j => if decide (b j c0 < a j c0) = true then some (nI j) else none) rfl fun j hj => ?_
        have hj := List.mem_range.mp hj
        simp only [gD]
        by_cases z : b j c0 < a j c0 <;> simp [nI, wipeE, at_row (a := a) (w := w) hj, at_row (a := b) (w := w) hj, rD, cell_at hc0, z]
      have T : evE c (.cmp .gt (.idx (.idx (.var 0) (.var 3)) (.var 4)) (.idx (.idx (.var 1) (.var 3)) (.var 4))) [some (gD h w a), some (gD h w b), some (.int (w : Nat)), some (.int (r : Nat)), some (.int (d : Nat)), x5, x6, x7] s = .ok (.bl true) s := by
        simp only [gD]
        simp [at_row (a := a) (w := w) hr, at_row (a := b) (w := w) hr, rD, cell_at hd, q]
      have LN : evE c (.bi .len (.cons (.var 0) .nil)) [some (gD h w a), some (gD h w b), some (.int (w : Nat)), some (.int (r : Nat)), some (.int (d : Nat)), some (.int (c0 : Nat)), x6, x7] s = .ok (.int (h : Nat)) s := by
        simp only [gD]
        simp
      unfold b4
      rw [ev_ss_cons, ev_s_ife, T]
      simp only [bind_ok, truth_bl, thenS_ok, if_true]
      rw [ev_ss_cons, ev_s_asg, ev_idx, ev_comp', ev_i_range]
      simp only [ev_cons, ev_nil, ev_v2, bind_ok, rng1 (show w ≤ 5000000 by omega), Option.map_some, liftO_some]
      rw [A1]
      simp only [noExc_ok, bind_ok]
      rw [if_pos L1]
      simp only [bind_ok, ev_lit, rd_lst', ix_l, at_zero, e0, lift_some]
      simp only [nI, bind_ok, ev_t_nm, toS_ok, List.set, seqS_nx]
      rw [ev_ss_cons, ev_s_asg, ev_idx, ev_comp', ev_i_range, ev_cons, LN]
      simp only [ev_nil, bind_ok, rng1 (show h ≤ 5000000 by omega), Option.map_some, liftO_some]
      rw [A2]
      simp only [noExc_ok, bind_ok]
      rw [if_pos L2]
      simp only [bind_ok, ev_lit, rd_lst', ix_l, at_zero, e1, lift_some]
      simp only [nI, bind_ok, ev_t_nm, toS_ok, List.set, seqS_nx]
      rw [hvv]
      by_cases z : r < s0
      · have z2 : (r : Int) < (s0 : Int) := by omega
        simp [z, z2, swD]
      · have z2 : ¬ (r : Int) < (s0 : Int) := by omega
        simp [z, z2, swD]
    refine ⟨_, R _ rfl, ?_⟩
    by_cases z : r < s0
    · rw [if_pos z]
      exact ⟨(r, s0, c0, d), ⟨z, hs0, hcd, hc0, hd⟩, ⟨q, p1, .inl p0⟩, rfl⟩
    · rw [if_neg z]
      exact ⟨(s0, r, d, c0), ⟨by simp only; omega, hr, fun z => hcd z.symm, hd, hc0⟩, ⟨p1, q, .inr p0⟩, rfl⟩
theorem w_swapfor (hh : 2 ≤ h ∧ h ≤ 5) (hw : 2 ≤ w ∧ w ≤ 5) (hs : same2 h w a b) (hne : gD h w a ≠ gD h w b) :
    ∃ x, okS h w x ∧ good b a x ∧ callN F (n + 1) 12 th [gD h w a, gD h w b] s = .ok (swD x) s := by
  have r1 := row_at (w := w) (a := a) (show 0 < h by omega)
  let Inv : En → Prop := fun e => ∃ x3 x4 x5 x6 x7, e = [some (gD h w a), some (gD h w b), some (.int (w : Nat)), x3, x4, x5, x6, x7]
  have main := loopS_find (s := s) (gd := []) (i := nI) (Inv := Inv) (Pv := ok2 h w a b) (N := fun r => ∀ d, d < w → ¬ b r d < a r d)
    (body := fun d e s => thenS (evT ⟨callN F n, th⟩ (.nm 3) d e s) e fun e1 s1 => evSs ⟨callN F n, th⟩ (.cons (.for_ (.nm 4) (.range (.cons (.var 2) .nil)) b4) .nil) e1 s1) rfl (xs := List.range h) (e := [some (gD h w a), some (gD h w b), some (.int (w : Nat)), none, none, none, none, none]) ⟨_, _, _, _, _, rfl⟩ (fun r hr e he => by
      obtain ⟨x3, x4, x5, x6, x7, rfl⟩ := he
      have hr := List.mem_range.mp hr
      have inn := loopS_find (s := s) (gd := []) (i := nI) (Inv := fun e => ∃ x4 x5 x6 x7, e = [some (gD h w a), some (gD h w b), some (.int (w : Nat)), some (.int (r : Nat)), x4, x5, x6, x7]) (Pv := ok2 h w a b) (N := fun d => ¬ b r d < a r d)
        (body := fun d e s => thenS (evT ⟨callN F n, th⟩ (.nm 4) d e s) e fun e1 s1 => evSs ⟨callN F n, th⟩ b4 e1 s1) rfl (xs := List.range w) (e := [some (gD h w a), some (gD h w b), some (.int (w : Nat)), some (.int (r : Nat)), x4, x5, x6, x7]) ⟨_, _, _, _, rfl⟩ (fun d hd e he => by
          obtain ⟨x4, x5, x6, x7, rfl⟩ := he
          have hd := List.mem_range.mp hd
          rcases inner_step (c := ⟨callN F n, th⟩) (s := s) hh hw hs hr hd x4 x5 x6 x7 with ⟨g1, g2⟩ | ⟨v, g1, g2⟩
          · refine .inl ⟨_, ?_, ⟨some (.int (d : Nat)), x5, x6, x7, rfl⟩, g2⟩
            simp only [nI, ev_t_nm, thenS_ok, List.set]
            exact g1
          · refine .inr ⟨v, ?_, g2⟩
            simp only [nI, ev_t_nm, thenS_ok, List.set]
            exact g1)
      rcases inn with ⟨e', g1, g2, g3⟩ | ⟨v, g1, g2⟩
      · obtain ⟨y4, y5, y6, y7, rfl⟩ := g2
        refine .inl ⟨_, ?_, ⟨some (.int (r : Nat)), y4, y5, y6, y7, rfl⟩, fun d hd => g3 d (List.mem_range.mpr hd)⟩
        simp only [nI, ev_t_nm, thenS_ok, List.set, ev_ss_cons, ev_s_for, ev_i_range, ev_cons, ev_v2, ev_nil, bind_ok, rng1 (show w ≤ 5000000 by omega), Option.map_some, liftO_some]
        simp only [ev_t_nm, thenS_ok] at g1
        rw [g1]
        simp
      · refine .inr ⟨v, ?_, g2⟩
        simp only [nI, ev_t_nm, thenS_ok, List.set, ev_ss_cons, ev_s_for, ev_i_range, ev_cons, ev_v2, ev_nil, bind_ok, rng1 (show w ≤ 5000000 by omega), Option.map_some, liftO_some]
        simp only [ev_t_nm, thenS_ok] at g1
        rw [g1]
        simp)
  rcases main with ⟨e', g1, g2, g3⟩ | ⟨v, g1, x, hx, hg, rfl⟩
  · exact absurd (gD_eq (le_same hs fun i hi j hj => by have := g3 i (List.mem_range.mpr hi) j hj; omega)) hne
  · refine ⟨x, hx, hg, ?_⟩
    have e : evSs ⟨callN F n, th⟩ b_swap_for [some (gD h w a), some (gD h w b), none, none, none, none, none, none] s = .ret (swD x) s := by
      unfold b_swap_for
      rw [ev_ss_cons]
      have s1 : evS ⟨callN F n, th⟩ (.asg (.nm 2) (.bi .len (.cons (.idx (.var 0) (.lit (.int 0))) .nil))) [some (gD h w a), some (gD h w b), none, none, none, none, none, none] s = .nx [some (gD h w a), some (gD h w b), some (.int (w : Nat)), none, none, none, none, none] s := by
        simp only [gD]
        simp [r1, rD]
      have s2 : evI ⟨callN F n, th⟩ (.range (.cons (.bi .len (.cons (.var 0) .nil)) .nil)) [some (gD h w a), some (gD h w b), some (.int (w : Nat)), none, none, none, none, none] s = .ok ((List.range h).map nI, []) s := by
        simp only [gD]
        simp [rng1 (show h ≤ 5000000 by omega)]
      rw [s1, seqS_nx, ev_ss_cons, ev_s_for, s2]
      simp only [thenS_ok]
      have g1' := g1
      unfold b4 at g1'
      rw [g1', seqS_ret]
    rw [c_swap_for e, fz_id (by simp [swD, noloc, nolocs])]
    simp
end
end K60
end
section
set_option maxRecDepth 100000
set_option maxHeartbeats 400000
namespace K60
open Pv LawTop
open PySem (Str)
@[simp] theorem ev_s_app {c : Cl} {o a : CE} {e : En} {s : Sto} : evS c (.app o a) e s = toS ((evE c o e s).bind fun x s => onLoc x fun n => (evE c a e s).bind fun y s => (appC n y s).bind fun _ s => .ok e s) e := by rw [evS]
@[simp] theorem ev_s_whl {c : Cl} {t : CE} {b : CSs} {e : En} {s : Sto} : evS c (.whl t b) e s = loopW (fun e s => (evE c t e s).bind truth) (fun e s => evSs c b e s) fuelW e s := by rw [evS]
section
variable {n h w : Nat} {th : Sto → Out D} {a b : Gr} {x : Sw} {s : Sto} {c : Cl} {e : En}
theorem below_sw {m : Nat} : below m (swD x) = true := by simp [swD, below, belows]
theorem belows_sw {m : Nat} : ∀ {l : List Sw}, belows m (l.map swD) = true
  | [] => rfl
  | x :: r => by simp only [List.map_cons, belows, below_sw, belows_sw, Bool.and_self]
theorem app_sw {l : List Sw} (hl : l.length < 5000) : appC s.length (swD x) (s ++ [.lst (l.map swD)]) = .ok () (s ++ [.lst ((l ++ [x]).map swD)]) := by
  unfold appC
  have e1 : (s ++ [D.lst (l.map swD)]).getD s.length .non = .lst (l.map swD) := by
    rw [List.getD_eq_getElem?_getD, List.getElem?_append_right (Nat.le_refl _)]
    simp
  rw [e1]
  dsimp only
  rw [if_pos (by rw [List.length_map]; have := big_of (m := 5000) (Nat.le_refl _); omega)]
  unfold putC
  have e2 : l.map swD ++ [swD x] = (l ++ [x]).map swD := by simp
  rw [e2, if_pos (by simp only [Bool.and_eq_true, decide_eq_true_eq, below]; exact ⟨by simp, belows_sw⟩)]
  congr 1
  rw [List.set_append_right _ _ (Nat.le_refl _)]
  simp
theorem P_of (hg : inG h w b = true) (hz : Z h w b) : P b := by
  intro i j
  by_cases q : i < h ∧ j < w
  · unfold inG at hg
    simp only [List.all_eq_true, List.mem_range, List.mem_map, Bool.and_eq_true, decide_eq_true_eq] at hg
    exact (hg i q.1 _ ⟨j, q.2, rfl⟩).1
  · rw [hz i j q]; exact Int.le_refl _
theorem gD_inj (e : gD h w a = gD h w b) (ha : Z h w a) (hb : Z h w b) : a = b := by
  funext i j
  by_cases q : i < h ∧ j < w
  · unfold gD at e
    have e1 := D.tup.inj e
    have e2 : ((List.range h).map (rD w a))[i]? = ((List.range h).map (rD w b))[i]? := by rw [e1]
    rw [row_at q.1, row_at q.1] at e2
    have e3 := D.tup.inj (Option.some.inj e2)
    have e4 : (iD ((List.range w).map (a i)))[j]? = (iD ((List.range w).map (b i)))[j]? := by rw [e3]
    rw [cell_at q.2, cell_at q.2] at e4
    exact D.int.inj (Option.some.inj e4)
  · rw [ha i j q, hb i j q]
theorem su_const {k : Int} : ∀ {n : Nat}, su n (fun _ => k) = n * k
  | 0 => by simp [su]
  | n + 1 => by simp only [su]; rw [su_const]; rw [Int.natCast_add, Int.add_mul]; simp
theorem far_le (hh : h ≤ 5) (hw : w ≤ 5) (hg : inG h w a = true) (hg2 : inG h w b = true) : far h w a b ≤ 225 := by
  unfold inG at hg hg2
  simp only [List.all_eq_true, List.mem_range, List.mem_map, Bool.and_eq_true, decide_eq_true_eq] at hg hg2
  have h1 : far h w a b ≤ su h fun _ => 45 := su_le fun i hi => by
    have h2 : su w (fun j => ((a i j - b i j).natAbs : Int)) ≤ su w fun _ => 9 := su_le fun j hj => by
      have := hg i hi _ ⟨j, hj, rfl⟩
      have := hg2 i hi _ ⟨j, hj, rfl⟩
      omega
    rw [su_const] at h2
    omega
  rw [su_const] at h1
  omega
theorem w_loop (hh : 2 ≤ h ∧ h ≤ 5) (hw : 2 ≤ w ∧ w ≤ 5) (hp : P b) (hzb : Z h w b) {A : Option D} : ∀ (m : Nat) (cur : Gr) (found : List Sw) (x4 : Option D) (fuel : Nat), far h w cur b ≤ m → m < fuel → found.length + m < 5000 → same2 h w cur b → Z h w cur →
    ∃ sw x4', (∀ x ∈ sw, okS h w x) ∧ okp cur sw ∧ endp cur sw = b ∧ 2 * (sw.length : Int) ≤ far h w cur b ∧ (∀ k, k < sw.length → gD h w (endp cur (sw.take k)) ≠ gD h w b) ∧
      loopW (fun e s => (evE ⟨callN F (n + 1), th⟩ (.cmp .ne (.var 3) (.var 1)) e s).bind truth) (fun e s => evSs ⟨callN F (n + 1), th⟩ (.cons (.asg (.nm 4) (.call 12 (.cons (.var 3) (.cons (.var 1) .nil)))) (.cons (.app (.var 2) (.var 4)) (.cons (.asg (.nm 3) (.call 9 (.cons (.var 3) (.cons (.var 4) .nil)))) .nil))) e s) fuel
        [A, some (gD h w b), some (.loc s.length), some (gD h w cur), x4] (s ++ [.lst (found.map swD)]) = .nx [A, some (gD h w b), some (.loc s.length), some (gD h w b), x4'] (s ++ [.lst ((found ++ sw).map swD)]) := by
  intro m
  induction m using Nat.strongRecOn with
  | ind m ih =>
    intro cur found x4 fuel hf hm hb hs hz
    obtain ⟨fl, rfl⟩ : ∃ fl, fuel = fl + 1 := ⟨fuel - 1, by omega⟩
    by_cases he : gD h w cur = gD h w b
    · refine ⟨[], x4, by simp, trivial, gD_inj he hz hzb, by simp; exact far_nonneg, by simp, ?_⟩
      simp only [loopW, ev_cmp, ev_v3, ev_v1, bind_ok, fz_id gD_noloc, cmp_ne_p gD_pint gD_pint, lift_some, truth_bl, he, decide_true, Bool.not_true]
      simp
    · obtain ⟨x, hx, hg, hcall⟩ := w_swapfor (n := n) (th := fun _ => Out.bad) (s := s ++ [.lst (found.map swD)]) hh hw hs he
      have hc := good_can hp hg
      have hfar := far_swp hx hg
      have hnn : 0 ≤ far h w (swp cur x) b := far_nonneg
      have hs2 : same2 h w (swp cur x) b := ⟨fun i hi => (row_swp hx i).trans (hs.1 i hi), fun j hj => (col_swp hx j).trans (hs.2 j hj)⟩
      obtain ⟨sw, x4', v1, v2, v3, v4, v5, v6⟩ := ih (m - 2) (by omega) (swp cur x) (found ++ [x]) (some (swD x)) fl (by omega) (by omega) (by simp; omega) hs2 (Z_swp hx hz)
      refine ⟨x :: sw, x4', fun y hy => ?_, ⟨hc, v2⟩, v3, by simp only [List.length_cons]; omega, fun k hk => ?_, ?_⟩
      · rcases List.mem_cons.mp hy with z | z
        · rw [z]; exact hx
        · exact v1 y z
      · cases k with
        | zero => exact he
        | succ k => simp only [List.take_succ_cons, endp]; exact v5 k (by simpa using hk)
      · rw [show found ++ x :: sw = found ++ [x] ++ sw by simp, ← v6]
        conv => lhs; unfold loopW
        simp only [ev_cmp, ev_v3, ev_v1, bind_ok, fz_id gD_noloc, cmp_ne_p gD_pint gD_pint, lift_some, truth_bl, he, decide_false, Bool.not_false]
        simp only [ev_ss_cons, ev_s_asg, ev_call, ev_cons, ev_v3, ev_v1, ev_nil, bind_ok, hcall, ev_t_nm, List.set, toS_ok, seqS_nx, ev_s_app, ev_v2, onLoc_loc, ev_v4, app_sw (show found.length < 5000 by omega), w_after hh.2 hx, ev_ss_nil]
theorem w_between (hh : 2 ≤ h ∧ h ≤ 5) (hw : 2 ≤ w ∧ w ≤ 5) (hg : inG h w a = true) (hg2 : inG h w b = true) (hs : same2 h w a b) (hza : Z h w a) (hzb : Z h w b) :
    ∃ sw, (∀ x ∈ sw, okS h w x) ∧ okp a sw ∧ endp a sw = b ∧ 2 * (sw.length : Int) ≤ far h w a b ∧ (∀ k, k < sw.length → gD h w (endp a (sw.take k)) ≠ gD h w b) ∧ callN F (n + 6) 13 th [gD h w a, gD h w b] s = .ok (.tup (sw.map swD)) s := by
  have hfar := far_le hh.2 hw.2 hg hg2
  obtain ⟨sw, x4', v1, v2, v3, v4, v5, v6⟩ := w_loop (n := n + 4) (th := th) (s := s) (A := some (gD h w a)) hh hw (P_of hg2 hzb) hzb 225 a [] none fuelW (by omega) (by unfold fuelW; omega) (by simp) hs hza
  refine ⟨sw, v1, v2, v3, v4, v5, ?_⟩
  have e : evSs ⟨callN F (n + 5), th⟩ b_swaps_between [some (gD h w a), some (gD h w b), none, none, none] s = .ret (.tup (sw.map swD)) (s ++ [.lst (sw.map swD)]) := by
    unfold b_swaps_between
    rw [ev_ss_cons]
    simp only [ev_s_exp, ev_call, ev_cons, ev_v0, ev_v1, ev_nil, bind_ok, w_alike hh hw hg hg2 hs, toS_ok, seqS_nx]
    rw [ev_ss_cons, ev_s_asg]
    simp only [ev_tup, ev_cons, ev_thaw', ev_lst, ev_nil, bind_ok, thawO_lst, belows, if_true, ev_v0, ev_t_tp, ev_ts_cons, ev_t_nm, ev_ts_nil, List.set, toS_ok, seqS_nx]
    rw [ev_ss_cons, ev_s_whl]
    simp only [List.map_nil, List.nil_append] at v6
    rw [v6, seqS_nx]
    simp
  rw [c_swaps_between e, fz_id (by simp only [noloc, nolocs_iff, List.mem_map]; rintro d ⟨x, _, rfl⟩; simp [swD, noloc, nolocs])]
  simp
end
end K60
end
section
set_option maxRecDepth 100000
set_option maxHeartbeats 400000
namespace K60
open Pv LawTop
open PySem (Str)
def cup (c0 c1 : Int) : D := .lst [.int c0, .int c1]
theorem mul_small {i j : Int} (h : -18446744073709551616 < j ∧ j < 18446744073709551616) : mulOk i j = true := by
  unfold mulOk
  have : -(2 ^ 64) < j ∧ j < 2 ^ 64 := ⟨by omega, by omega⟩
  simp [this, h]
theorem pow18 : binD .pow (.int 10) (.int 18) = some (.int 1000000000000000000) := by
  unfold binD
  dsimp only
  rw [if_pos ⟨by decide, by decide, by decide⟩]
  rfl
theorem div_ok {j : Int} (h : 0 < j) (h2 : j < 1000000) : divOk j = true := by
  unfold divOk
  have h3 : j.natAbs.log2 < 9000 := by
    have : j.natAbs < 2 ^ 20 := by omega
    have := (Nat.log2_lt (n := j.natAbs) (by omega)).mpr this
    omega
  simp [h3]
  omega
theorem divZ_pos {i j : Int} (h : 0 < j) : fdivZ i j = i / j := by unfold fdivZ; rw [if_pos h]
theorem modZ_pos {i j : Int} (h : 0 < j) : modZ i j = i % j := by unfold modZ; rw [if_pos h]
section
variable {n : Nat} {th : Sto → Out D} {s : Sto}
theorem set0 {c0 c1 v : Int} : setC 0 0 (.int v) [cup c0 c1] = .ok () [cup v c1] := by
  simp [setC, cup, setAt, putC, below, belows]
theorem set1 {c0 c1 v : Int} : setC 0 1 (.int v) [cup c0 c1] = .ok () [cup c0 v] := by
  simp [setC, cup, setAt, putC, below, belows]
@[simp] theorem at_one {xs : List D} : atD xs 1 = xs[1]? := by simp [atD]
theorem w_roll {c0 c1 many : Int} (h0 : 0 ≤ c0) (h1 : 0 ≤ c1) (hm : 1 ≤ many) (hm2 : many ≤ 1000) : ∃ r c0' c1', 0 ≤ r ∧ r < many ∧ 0 ≤ c0' ∧ 0 ≤ c1' ∧ ∀ (n : Nat) (th : Sto → Out D), callN F (n + 1) 16 th [.loc 0, .int many] [cup c0 c1] = .ok (.int r) [cup c0' c1'] := by
  by_cases q : 0 < c0
  · refine ⟨c0 % many, c0 / many, c1, Int.emod_nonneg _ (by omega), Int.emod_lt_of_pos _ (by omega), Int.ediv_nonneg h0 (by omega), h1, fun n th => ?_⟩
    have e : evSs ⟨callN F n, th⟩ b__law_roll [some (.loc 0), some (.int many), none, none] [cup c0 c1] = .ret (.int (c0 % many)) [cup (c0 / many) c1] := by
      have g1 : binD .mod (.int c0) (.int many) = some (.int (c0 % many)) := by rw [bin_mod (by omega), modZ_pos (by omega)]
      have g2 : binD .fdiv (.int c0) (.int many) = some (.int (c0 / many)) := by rw [bin_div (div_ok (by omega) (by omega)), divZ_pos (by omega)]
      have g0 : [cup c0 c1][0]? = some (.lst [.int c0, .int c1]) := rfl
      simp [b__law_roll, cup, q, g1, g2]
      have := set0 (c0 := c0) (c1 := c1) (v := c0 / many)
      simp only [cup] at this
      simp [this]
    rw [c__law_roll e]
    simp
  · have e1 : ∃ d1, d1 = (c1 * 41047 + 10111) % 2147483549 := ⟨_, rfl⟩
    obtain ⟨d1, hd1⟩ := e1
    have p1 : 0 ≤ d1 := by rw [hd1]; exact Int.emod_nonneg _ (by omega)
    have p2 : d1 < 2147483549 := by rw [hd1]; exact Int.emod_lt_of_pos _ (by omega)
    refine ⟨((d1 * (d1 + 401)) % 2147483489) / 983 % many, c0, d1, Int.emod_nonneg _ (by omega), Int.emod_lt_of_pos _ (by omega), h0, p1, fun n th => ?_⟩
    have e : evSs ⟨callN F n, th⟩ b__law_roll [some (.loc 0), some (.int many), none, none] [cup c0 c1] = .ret (.int (((d1 * (d1 + 401)) % 2147483489) / 983 % many)) [cup c0 d1] := by
      have g1 : binD .mul (.int c1) (.int 41047) = some (.int (c1 * 41047)) := bin_mul (mul_small (by omega))
      have g2 : binD .mod (.int (c1 * 41047 + 10111)) (.int 2147483549) = some (.int d1) := by rw [bin_mod (by omega), modZ_pos (by omega), ← hd1]
      have g3 : binD .mul (.int d1) (.int (d1 + 401)) = some (.int (d1 * (d1 + 401))) := bin_mul (mul_small (by omega))
      have g4 : binD .mod (.int (d1 * (d1 + 401))) (.int 2147483489) = some (.int ((d1 * (d1 + 401)) % 2147483489)) := by rw [bin_mod (by omega), modZ_pos (by omega)]
      have g5 : ∀ z : Int, binD .fdiv (.int z) (.int 983) = some (.int (z / 983)) := fun z => by rw [bin_div (div_ok (by omega) (by omega)), divZ_pos (by omega)]
      have g6 : ∀ z : Int, binD .mod (.int z) (.int many) = some (.int (z % many)) := fun z => by rw [bin_mod (by omega), modZ_pos (by omega)]
      have := set1 (c0 := c0) (c1 := c1) (v := d1)
      simp only [cup] at this
      simp [b__law_roll, cup, q, g1, g2, this, g3, g4, g5, g6]
    rw [c__law_roll e]
    simp
end
end K60
end
section
set_option maxRecDepth 100000
set_option maxHeartbeats 400000
namespace K60
open Pv LawTop
open PySem (Str)
section
variable {n : Nat} {th : Sto → Out D} {s : Sto}
theorem w_cup {ns : List Int} (hl : ns.length ≤ 63) : ∃ c0 c1, 0 ≤ c0 ∧ 0 ≤ c1 ∧ callN F (n + 1) 15 th [.lst (iD ns)] s = .ok (cup c0 c1) s := by
  obtain ⟨v, hv⟩ : ∃ v, (iD ns ++ [D.int 0])[0]? = some (.int v) := by
    cases ns with
    | nil => exact ⟨0, rfl⟩
    | cons a r => exact ⟨a, rfl⟩
  obtain ⟨z, hz⟩ : ∃ z : Int, z = if v < 0 then -v else v := ⟨_, rfl⟩
  have z0 : 0 ≤ z := by rw [hz]; split <;> omega
  have g1 : binD .add (.lst (iD ns)) (.lst [.int 0]) = some (.lst (iD ns ++ [.int 0])) := bin_add_l (by simp; exact big_of (by omega))
  have g2 : binD .fdiv (.int z) (.int 1169) = some (.int (z / 1169)) := by rw [bin_div (div_ok (by omega) (by omega)), divZ_pos (by omega)]
  have g3 : binD .mul (.int z) (.int 2693) = some (.int (z * 2693)) := bin_mul (mul_small (by omega))
  have g4 : binD .mod (.int (z * 2693 + 8497)) (.int 1998244343) = some (.int ((z * 2693 + 8497) % 1998244343)) := by rw [bin_mod (by omega), modZ_pos (by omega)]
  have p1 : 0 ≤ (z * 2693 + 8497) % 1998244343 := Int.emod_nonneg _ (by omega)
  have p2 : 0 ≤ z / 1169 := Int.ediv_nonneg z0 (by omega)
  refine ⟨if 1000000000000000000 ≤ z then z / 1169 else 0, (z * 2693 + 8497) % 1998244343 + 560, ?_, by omega, ?_⟩
  · split <;> omega
  · have e : evSs ⟨callN F n, th⟩ b__law_cup [some (.lst (iD ns)), none] s = .ret (cup (if 1000000000000000000 ≤ z then z / 1169 else 0) ((z * 2693 + 8497) % 1998244343 + 560)) s := by
      unfold b__law_cup
      rw [ev_ss_cons]
      have s1 : evS ⟨callN F n, th⟩ (.asg (.nm 1) (.bi .abs (.cons (.idx (.bin .add (.bi .list (.cons (.var 0) .nil)) (.lst (.cons (.lit (.int 0)) .nil))) (.lit (.int 0))) .nil))) [some (.lst (iD ns)), none] s = .nx [some (.lst (iD ns)), some (.int z)] s := by
        rw [hz]
        simp only [ev_s_asg, ev_bi, ev_cons, ev_nil, ev_idx, ev_bin, ev_v0, bind_ok, List.map_cons, List.map_nil, rd_lst', bi_lst_l, lift_some, ev_lst, ev_lit, g1, ix_l, at_zero, hv, rd_int', bi_abs, ev_t_nm, toS_ok, List.set]
      rw [s1, seqS_nx]
      by_cases q : 1000000000000000000 ≤ z <;> simp [q, pow18, g2, g3, g4, cup]
    rw [c__law_cup e rfl, fz_id rfl]
    simp
theorem zip_self : ∀ xs : List D, zipD xs xs = xs.map fun x => .tup [x, x]
  | [] => rfl
  | x :: r => by simp [zipD, zip_self r]
def zipO (x y : Option (Bool × List D × Gd)) (s : Sto) : Out (List D × Gd) :=
  match x, y with
  | some (k, xs, g), some (m, ys, h) => if k = m then .ok (zipD xs ys, g ++ h) s else .bad
  | _, _ => .bad
@[simp] theorem zipO_tt {xs ys : List D} : zipO (some (true, xs, [])) (some (true, ys, [])) s = .ok (zipD xs ys, []) s := id rfl
@[simp] theorem ev_i_zip {c : Cl} {a b : CE} {e : En} {s : Sto} : evI c (.zip a b) e s = (evE c a e s).bind fun x s => (evE c b e s).bind fun y s => zipO (walkQ s x) (walkQ s y) s := by
  rw [evI]
  rfl
@[simp] theorem walkQ_t {xs : List D} : walkQ s (.tup xs) = some (true, xs, []) := id rfl
theorem fm_none {α : Type} : ∀ xs : List α, xs.filterMap (fun _ => (none : Option D)) = []
  | [] => rfl
  | x :: r => by simp [fm_none r]
theorem cmp_nil : cmpD .eq (.lst []) (.lst []) = some (.bl true) := by simp [cmpD, eqD, plain, plains, eqv, eqvs]
def lk : Nat → D → Bool
  | _, .non => true
  | _, .bl _ => true
  | _, .int _ => true
  | 0, _ => false
  | k + 1, .tup xs => decide (xs.length ≤ 5000) && xs.all (lk k)
  | _, _ => false
theorem w_like : ∀ (k : Nat) (d : D), lk k d = true → ∀ {n : Nat} {th : Sto → Out D} {s : Sto}, callN F (n + k + 1) 17 th [d, d] s = .ok (.bl true) s := by
  intro k
  induction k with
  | zero =>
    intro d hd n th s
    cases d with
    | non => rw [c__law_like (d := .bl true) (s1 := s) (by simp [b__law_like, cmpD, eqD, plain, eqv])]; simp
    | bl b => rw [c__law_like (d := .bl true) (s1 := s) (by simp [b__law_like])]; simp
    | int i => rw [c__law_like (d := .bl true) (s1 := s) (by simp [b__law_like])]; simp
    | _ => simp [lk] at hd
  | succ k ih =>
    intro d hd n th s
    cases d with
    | non => rw [c__law_like (d := .bl true) (s1 := s) (by simp [b__law_like, cmpD, eqD, plain, eqv])]; simp
    | bl b => rw [c__law_like (d := .bl true) (s1 := s) (by simp [b__law_like])]; simp
    | int i => rw [c__law_like (d := .bl true) (s1 := s) (by simp [b__law_like])]; simp
    | tup xs =>
      simp only [lk, Bool.and_eq_true, decide_eq_true_eq, List.all_eq_true] at hd
      have e : evSs ⟨callN F (n + k + 1), th⟩ b__law_like [some (.tup xs), some (.tup xs), none, none] s = .ret (.bl true) s := by
        simp [b__law_like, zip_self, wipeE]
        rw [loopC_fo (fun _ => none) rfl (fun x hx => by simp [ih x (hd.2 x hx)])]
        rw [fm_none]
        simp [cmp_nil, fz_id (show noloc (.lst []) = true from rfl)]
      rw [show n + (k + 1) + 1 = n + k + 1 + 1 by omega, c__law_like e]
      simp
    | _ => simp [lk] at hd
end
end K60
end
section
set_option maxRecDepth 100000
set_option maxHeartbeats 400000
namespace K60
open Pv LawTop
open PySem (Str)
theorem zip_map {α : Type} {f g : α → D} : ∀ xs : List α, zipD (xs.map f) (xs.map g) = xs.map fun x => .tup [f x, g x]
  | [] => rfl
  | x :: r => by simp [zipD, zip_map r]
section
variable {n h w : Nat} {th : Sto → Out D} {a b : Gr} {x : Sw} {s : Sto}
theorem sws_noloc {l : List Sw} : noloc (.tup (l.map swD)) = true := by
  simp only [noloc, nolocs_iff, List.mem_map]
  rintro d ⟨x, _, rfl⟩
  simp [swD, noloc, nolocs]
theorem w_back {sw : List Sw} (hl : sw.length ≤ 5000) : callN F (n + 1) 21 th [.tup (sw.map swD)] s = .ok (.tup ((back sw).map swD)) s := by
  have e : evSs ⟨callN F n, th⟩ b__law_back [some (.tup (sw.map swD)), none, none, none, none] s = .ret (.tup ((back sw).map swD)) s := by
    simp [b__law_back, ← List.map_reverse, wipeE]
    rw [loopC_of (i := swD) (fun x => swD (flip x)) rfl (fun x _ => by simp [swD, flip])]
    have : sw.length ≤ big := big_of hl
    simp [this, back]
  rw [c__law_back e, fz_id sws_noloc]
  simp
theorem abs_eq (z : Int) : (if z < 0 then -z else z) = (z.natAbs : Int) := by split <;> omega
theorem w_far (hh : h ≤ 5) (hw : w ≤ 5) : callN F (n + 1) 20 th [gD h w a, gD h w b] s = .ok (.int (far h w a b)) s := by
  have hb : h ≤ big := big_of (by omega)
  have wb : w ≤ big := big_of (by omega)
  have e : evSs ⟨callN F n, th⟩ b__law_far [some (gD h w a), some (gD h w b), none, none, none, none] s = .ret (.int (far h w a b)) s := by
    simp only [gD]
    simp [b__law_far, zip_map, wipeE]
    rw [loopC_int (fun i => su w fun j => ((a i j - b i j).natAbs : Int)) rfl (fun i _ => by
      simp [rD]
      rw [show zipD (iD ((List.range w).map (a i))) (iD ((List.range w).map (b i))) = (List.range w).map fun j => .tup [.int (a i j), .int (b i j)] by
        unfold iD; rw [List.map_map, List.map_map, zip_map]; rfl]
      rw [loopC_int (fun j => ((a i j - b i j).natAbs : Int)) rfl (fun j _ => by simp [abs_eq])]
      simp [wb, sum_su])]
    simp [hb, sum_su, far]
  rw [c__law_far e]
  simp
end
end K60
end
section
set_option maxRecDepth 100000
set_option maxHeartbeats 400000
namespace K60
open Pv LawTop
open PySem (Str)
def minL : List Int → Int
  | [] => 0
  | m :: r => minZ m r
theorem minZ_nn : ∀ (r : List Int) (m : Int), 0 ≤ minZ m r ↔ 0 ≤ m ∧ ∀ v ∈ r, 0 ≤ v
  | [], m => by simp [minZ]
  | x :: r, m => by
    simp only [minZ]
    rw [minZ_nn r]
    simp only [List.mem_cons, forall_eq_or_imp]
    split
    · constructor
      · rintro ⟨p, q⟩; exact ⟨by omega, p, q⟩
      · rintro ⟨p, q, r⟩; exact ⟨q, r⟩
    · constructor
      · rintro ⟨p, q⟩; exact ⟨p, by omega, q⟩
      · rintro ⟨p, q, r⟩; exact ⟨p, r⟩
theorem minL_nn {l : List Int} : 0 ≤ minL l ↔ ∀ v ∈ l, 0 ≤ v := by
  cases l with
  | nil => simp [minL]
  | cons m r => simp only [minL]; rw [minZ_nn]; simp
theorem bi_minL {l : List Int} (h : l ≠ []) : biD .min [.lst (iD l)] = some (.int (minL l)) := by
  cases l with
  | nil => exact absurd rfl h
  | cons m r =>
    have : intsD (iD (m :: r)) = some (m :: r) := iD_ints
    simp only [biD, seqD, this, minL]
section
variable {n h w : Nat} {th : Sto → Out D} {a b : Gr} {x : Sw} {s : Sto}
theorem neg_can (hp : P a) (hx : okS h w x) : (∀ i, i < h → ∀ j, j < w → 0 ≤ swp a x i j) ↔ can a x := by
  constructor
  · intro hq
    have hx' := hx
    obtain ⟨h1, h2, h3, h4, h5⟩ := hx'
    have q1 := hq x.1 (by omega) x.2.2.2 h5
    have q2 := hq x.2.1 h2 x.2.2.1 h4
    simp only [swp] at q1 q2
    rw [dl_val hx] at q1 q2
    have n1 : ¬ x.2.2.2 = x.2.2.1 := fun z => h3 z.symm
    have n2 : ¬ x.2.1 = x.1 := by omega
    simp only [n1, n2, h3, and_true, and_false, true_and, false_and, if_true, if_false] at q1 q2
    exact ⟨by omega, by omega⟩
  · intro hc i _ j _
    exact P_swp hx hp hc i j
def b7 : CSs := (.cons (.asg (.sub (.idx (.var 2) (.var 7)) (.var 8)) (.bin .add (.idx (.idx (.var 2) (.var 7)) (.var 8)) (.var 9))) .nil)
theorem turn7 {c : Cl} {A B r s' c' d' x7 x8 x9 x10 : Option D} {i j : Nat} {k : Int} (hi : i < h) (hj : j < w) :
    thenS (evT c (.tp (.cons (.nm 7) (.cons (.nm 8) (.cons (.nm 9) .nil)))) (.tup [.int (i : Nat), .int (j : Nat), .int k]) [A, B, some (.loc (s.length + h)), r, s', c', d', x7, x8, x9, x10] (sto s h w a)) [A, B, some (.loc (s.length + h)), r, s', c', d', x7, x8, x9, x10] (fun e1 s1 => evSs c b7 e1 s1)
      = .nx [A, B, some (.loc (s.length + h)), r, s', c', d', some (.int (i : Nat)), some (.int (j : Nat)), some (.int k), x10] (sto s h w (upd a i j (a i j + k))) := by
  simp only [ev_t_tp, ev_ts_cons, ev_t_nm, bind_ok, ev_ts_nil, List.set, thenS_ok]
  unfold b7
  rw [ev_ss_cons, step_of (i := i) (j := j) (k := k) rfl rfl rfl hi hj ev_v9 bin_add, seqS_nx, ev_ss_nil]
theorem min_of {L I : Nat} {c : Cl} {e : En} {own : List (Str × Nat)} (hb : h ≤ 5000) (hh : 0 < h) (hw : 0 < w) (hL : e[L]? = some (some (.loc (s.length + h)))) (he : ∀ d : D, ((wipeE e own).set I (some d))[I]? = some (some d)) :
    evE c (.bi .min (.cons (.comp own (.nm I) (.of (.var L)) .nil (.bi .min (.cons (.var I) .nil))) .nil)) e (sto s h w a) = .ok (.int (minL ((List.range h).map fun i => minL ((List.range w).map (a i))))) (sto s h w a) := by
  have hW : walkD (sto s h w a) (.loc (s.length + h)) = some (locs s.length h, [(s.length + h, locs s.length h)]) := by
    simp only [walkD, sto_top]
  have hG : gok (sto s h w a) [(s.length + h, locs s.length h)] = true := by
    simp only [gok, sto_top, same_refl, Bool.and_self]
  have hC : loopC (fun d s => (evT c (.nm I) d (wipeE e own) s).bind fun e1 s => (evIf c .nil e1 s).bind fun k s => if k = true then (evE c (.bi .min (.cons (.var I) .nil)) e1 s).bind fun y s => .ok (some y) s else .ok none s) [(s.length + h, locs s.length h)] (locs s.length h) (sto s h w a)
      = .ok (iD ((List.range h).map fun i => minL ((List.range w).map (a i)))) (sto s h w a) := by
    unfold locs at hG ⊢
    refine loopC_int (i := fun k => D.loc (s.length + k)) (fun i => minL ((List.range w).map (a i))) hG fun k hk => ?_
    simp only [List.mem_range] at hk
    have hne : (List.range w).map (a k) ≠ [] := by
      intro z
      have := congrArg List.length z
      simp at this
      omega
    simp [ev_var (he _), sto_row' hk, rL, bi_minL hne]
  have hne : ((List.range h).map fun i => minL ((List.range w).map (a i))) ≠ [] := by
    intro z
    have := congrArg List.length z
    simp at this
    omega
  rw [ev_bi, ev_cons, ev_comp', ev_i_of, ev_var hL]
  simp only [bind_ok, hW, liftO_some, hC, noExc_ok]
  rw [if_pos (by simp; exact big_of hb)]
  simp [bi_minL hne]
open Classical in
theorem w_done (hh : 2 ≤ h ∧ h ≤ 5) (hw : 2 ≤ w ∧ w ≤ 5) (hp : P a) (hx : okS h w x) : callN F (n + 1) 18 th [gD h w a, swD x] s = .ok (if can a x then gD h w (swp a x) else .non) s := by
  have hx' := hx
  obtain ⟨h1, h2, h3, h4, h5⟩ := hx'
  have n1 : ¬ x.2.1 = x.1 := by omega
  have n3 : ¬ x.2.2.2 = x.2.2.1 := fun z => h3 z.symm
  have e : evSs ⟨callN F n, th⟩ b__law_done [some (gD h w a), some (swD x), none, none, none, none, none, none, none, none, none] s = .ret (if can a x then gD h w (swp a x) else .non) (sto s h w (swp a x)) := by
    unfold b__law_done
    rw [ev_ss_cons]
    have s1 : ∀ a0 : D, evS ⟨callN F n, th⟩ (.asg (.tp (.cons (.nm 3) (.cons (.nm 4) (.cons (.nm 5) (.cons (.nm 6) .nil))))) (.var 1)) [some a0, some (swD x), none, none, none, none, none, none, none, none, none] s = .nx [some a0, some (swD x), none, some (.int (x.1 : Nat)), some (.int (x.2.1 : Nat)), some (.int (x.2.2.1 : Nat)), some (.int (x.2.2.2 : Nat)), none, none, none, none] s := fun a0 => by
      simp [swD]
    rw [s1, seqS_nx, ev_ss_cons, ev_s_asg, lay_of (h := h) (w := w) (a := a) (by omega) rfl (fun _ => rfl)]
    simp only [bind_ok, ev_t_nm, toS_ok, seqS_nx, List.set]
    rw [ev_ss_cons, ev_s_for, ev_i_of]
    simp only [ev_tup, ev_cons, ev_v3, ev_v4, ev_v5, ev_v6, ev_lit, ev_neg, neg_int, lift_some, ev_nil, bind_ok, walk_tup, liftO_some, thenS_ok]
    have fold : ∀ (g : D → En → Sto → OutS), g = (fun d e s => thenS (evT ⟨callN F n, th⟩ (.tp (.cons (.nm 7) (.cons (.nm 8) (.cons (.nm 9) .nil)))) d e s) e fun e1 s1 => evSs ⟨callN F n, th⟩ b7 e1 s1) → ∀ e0 : D, ∃ y7 y8 y9,
        loopS g [] [.tup [.int (x.1 : Nat), .int (x.2.2.1 : Nat), .int 1], .tup [.int (x.2.1 : Nat), .int (x.2.2.2 : Nat), .int 1], .tup [.int (x.1 : Nat), .int (x.2.2.2 : Nat), .int (-1)], .tup [.int (x.2.1 : Nat), .int (x.2.2.1 : Nat), .int (-1)]]
          [some e0, some (swD x), some (.loc (s.length + h)), some (.int (x.1 : Nat)), some (.int (x.2.1 : Nat)), some (.int (x.2.2.1 : Nat)), some (.int (x.2.2.2 : Nat)), none, none, none, none] (sto s h w a)
        = .nx [some e0, some (swD x), some (.loc (s.length + h)), some (.int (x.1 : Nat)), some (.int (x.2.1 : Nat)), some (.int (x.2.2.1 : Nat)), some (.int (x.2.2.2 : Nat)), y7, y8, y9, none] (sto s h w (swp a x)) := by
      intro g hg e0
      refine ⟨some (.int (x.2.1 : Nat)), some (.int (x.2.2.1 : Nat)), some (.int (-1)), ?_⟩
      simp only [loopS, gok_nil, if_true]
      rw [hg]
      simp only [turn7 (show x.1 < h by omega) h4, turn7 h2 h5, turn7 (show x.1 < h by omega) h5, turn7 h2 h4]
      have u : ∀ p q : Gr, p = q → ∀ ee : En, OutS.nx ee (sto s h w p) = .nx ee (sto s h w q) := fun p q hpq ee => by rw [hpq]
      refine u _ _ ?_ _
      rw [← swp_upd hx]
      simp [upd, n1, n3, h3, show ¬ x.1 = x.2.1 by omega, Int.sub_eq_add_neg]
    obtain ⟨y7, y8, y9, hf⟩ := fold _ rfl (gD h w a)
    unfold b7 at hf
    rw [hf, seqS_nx, ev_ss_cons, ev_s_ret, ev_ite, ev_cmp, min_of (h := h) (w := w) (by omega) (by omega) (by omega) rfl (fun _ => rfl)]
    simp only [bind_ok, ev_lit, fz_int, cmp_ge, lift_some, truth_bl]
    have hiff : (0 ≤ minL ((List.range h).map fun i => minL ((List.range w).map (swp a x i)))) ↔ can a x := by
      rw [minL_nn, ← neg_can hp hx]
      simp only [List.mem_map, List.mem_range, forall_exists_index, and_imp, forall_apply_eq_imp_iff₂, minL_nn]
    by_cases q : can a x
    · rw [if_pos q, if_pos (decide_eq_true (hiff.mpr q)), take_of (h := h) (w := w) (by omega) rfl (fun _ => rfl), thenS_ok, seqS_ret]
    · rw [if_neg q, if_neg (by rw [decide_eq_true_eq]; exact fun z => q (hiff.mp z)), thenS_ok, seqS_ret]
  rw [c__law_done e, sto_take]
  split
  · rw [fz_id gD_noloc]
  · rfl
end
end K60
end
section
set_option maxRecDepth 100000
set_option maxHeartbeats 400000
namespace K60
open Pv LawTop
open PySem (Str)
section
variable {n h w : Nat} {th : Sto → Out D} {a b : Gr} {x : Sw} {s : Sto}
theorem lk_gD (hh : h ≤ 5) (hw : w ≤ 5) : lk 2 (gD h w a) = true := by
  simp only [gD, lk, List.length_map, List.length_range, Bool.and_eq_true, decide_eq_true_eq, List.all_eq_true, List.mem_map, List.mem_range]
  refine ⟨by omega, ?_⟩
  rintro d ⟨i, _, rfl⟩
  simp only [rD, lk, iD_len, List.length_map, List.length_range, Bool.and_eq_true, decide_eq_true_eq, List.all_eq_true]
  refine ⟨by omega, fun d hd => ?_⟩
  simp only [iD, List.mem_map] at hd
  obtain ⟨z, _, rfl⟩ := hd
  simp [lk]
theorem leads_loop {body : D → En → Sto → OutS} {A B V : Option D} (hb : ∀ (cur : Gr) (l : Option D) (x : Sw), P cur → okS h w x → can cur x → body (swD x) [A, B, V, some (gD h w cur), l] s = .nx [A, B, V, some (gD h w (swp cur x)), some (swD x)] s) :
    ∀ (sw : List Sw) (cur : Gr) (l : Option D), P cur → (∀ x ∈ sw, okS h w x) → okp cur sw → ∃ l', loopS body [] (sw.map swD) [A, B, V, some (gD h w cur), l] s = .nx [A, B, V, some (gD h w (endp cur sw)), l'] s
  | [], cur, l, _, _, _ => ⟨l, by simp [loopS, endp]⟩
  | x :: r, cur, l, hp, hv, ho => by
    have hx := hv x (by simp)
    obtain ⟨l', e⟩ := leads_loop hb r (swp cur x) (some (swD x)) (P_swp hx hp ho.1) (fun y hy => hv y (by simp [hy])) ho.2
    refine ⟨l', ?_⟩
    simp only [List.map_cons, loopS, gok_nil, if_true]
    rw [hb cur l x hp hx ho.1]
    exact e
open Classical in
theorem w_leads (hh : 2 ≤ h ∧ h ≤ 5) (hw : 2 ≤ w ∧ w ≤ 5) (hp : P a) {sw : List Sw} (hv : ∀ x ∈ sw, okS h w x) (ho : okp a sw) :
    callN F (n + 6) 22 th [gD h w a, gD h w b, .tup (sw.map swD)] s = .ok (.bl (decide (gD h w (endp a sw) = gD h w b))) s := by
  have e : evSs ⟨callN F (n + 5), th⟩ b__law_leads [some (gD h w a), some (gD h w b), some (.tup (sw.map swD)), none, none] s = .ret (.bl (decide (gD h w (endp a sw) = gD h w b))) s := by
    unfold b__law_leads
    rw [ev_ss_cons, ev_s_asg]
    simp only [ev_v0, bind_ok, ev_t_nm, toS_ok, seqS_nx, List.set]
    rw [ev_ss_cons, ev_s_for, ev_i_of, ev_v2]
    simp only [bind_ok, walk_tup, liftO_some, thenS_ok]
    obtain ⟨l', el⟩ := leads_loop (s := s) (h := h) (w := w) (A := some (gD h w a)) (B := some (gD h w b)) (V := some (.tup (sw.map swD)))
      (body := fun d e s => thenS (evT ⟨callN F (n + 5), th⟩ (.nm 4) d e s) e fun e1 s1 => evSs ⟨callN F (n + 5), th⟩ (.cons (.ife (.not (.call 17 (.cons (.ite (.cmp .is_ (.call 3 (.cons (.var 3) .nil)) (.lit (.bl true))) (.call 10 (.cons (.var 3) (.cons (.var 4) .nil))) (.call 18 (.cons (.var 3) (.cons (.var 4) .nil)))) (.cons (.call 18 (.cons (.var 3) (.cons (.var 4) .nil))) .nil)))) (.cons (.ret (.lit (.bl false))) .nil) .nil) (.cons (.asg (.nm 3) (.call 18 (.cons (.var 3) (.cons (.var 4) .nil)))) .nil)) e1 s1)
      (fun cur l x hp hx hc => by
        have like := w_like 2 (gD h w (swp cur x)) (lk_gD hh.2 hw.2) (n := n + 2) (th := fun _ => Out.bad) (s := s)
        rw [show n + 2 + 2 + 1 = n + 5 by omega] at like
        by_cases q : inG h w cur = true
        · simp [w_grid hh hw, q, w_swapped hh hw q hx hc, w_done hh hw hp hx, hc, like]
        · simp [w_grid hh hw, q, w_done hh hw hp hx, hc, like]) sw a none hp hv ho
    rw [el, seqS_nx]
    simp [fz_id gD_noloc, cmp_eq_p gD_pint gD_pint]
  rw [c__law_leads e]
  simp
end
end K60
end
section
set_option maxRecDepth 100000
set_option maxHeartbeats 400000
namespace K60
open Pv LawTop
open PySem (Str)
section
variable {n h w : Nat} {th : Sto → Out D} {a b : Gr} {x : Sw} {s : Sto}
/-- a roll below a number -/
theorem roll_nat {c0 c1 : Int} (h0 : 0 ≤ c0) (h1 : 0 ≤ c1) {m : Nat} (hm : 1 ≤ m) (hm2 : m ≤ 1000) : ∃ (r : Nat) (c0' c1' : Int), r < m ∧ 0 ≤ c0' ∧ 0 ≤ c1' ∧ ∀ n th, callN F (n + 1) 16 th [.loc 0, .int (m : Int)] [cup c0 c1] = .ok (.int (r : Int)) [cup c0' c1'] := by
  obtain ⟨r, c0', c1', p1, p2, p3, p4, e⟩ := w_roll h0 h1 (many := (m : Int)) (by omega) (by omega)
  refine ⟨r.toNat, c0', c1', by omega, p3, p4, fun n th => ?_⟩
  rw [e n th, Int.toNat_of_nonneg p1]
theorem loopS_inv {α : Type} {body : D → En → Sto → OutS} {i : α → D} {Inv : Nat → En → Sto → Prop} {N : Nat} : ∀ {xs : List α} {k : Nat} {e : En} {s : Sto}, k + xs.length ≤ N → Inv k e s → (∀ x ∈ xs, ∀ k e s, k < N → Inv k e s → ∃ e' s', body (i x) e s = .nx e' s' ∧ Inv (k + 1) e' s') →
    ∃ e' s', loopS body [] (xs.map i) e s = .nx e' s' ∧ Inv (k + xs.length) e' s'
  | [], k, e, s, _, he, _ => ⟨e, s, by simp [loopS], he⟩
  | x :: r, k, e, s, hn, he, h => by
    rw [List.length_cons] at hn
    obtain ⟨e1, s1, h1, h2⟩ := h x (by simp) k e s (by omega) he
    obtain ⟨e2, s2, g1, g2⟩ := loopS_inv (xs := r) (by omega) h2 fun y hy => h y (by simp [hy])
    refine ⟨e2, s2, ?_, by rw [List.length_cons, show k + (r.length + 1) = k + 1 + r.length by omega]; exact g2⟩
    simp only [List.map_cons, loopS, gok_nil, if_true]
    rw [h1]
    exact g1
/-- swaps so far, from g -/
def DI (h w : Nat) (g : Gr) (many : D) (k : Nat) (e : En) (s : Sto) : Prop := ∃ (l : List Sw) (c0 c1 : Int) (x3 x6 x7 x8 x9 x10 : Option D), l.length ≤ k ∧ (∀ x ∈ l, okS h w x) ∧ okp g l ∧ 0 ≤ c0 ∧ 0 ≤ c1 ∧ s = [cup c0 c1] ∧
  e = [some (.loc 0), some (gD h w g), some many, x3, some (gD h w (endp g l)), some (.lst (l.map swD)), x6, x7, x8, x9, x10]
def b3 : CSs := (.cons (.asg (.nm 6) (.call 16 (.cons (.var 0) (.cons (.bin .sub (.bi .len (.cons (.var 1) .nil)) (.lit (.int 1))) .nil)))) (.cons (.asg (.tp (.cons (.nm 9) (.cons (.nm 10) .nil))) (.tup (.cons (.bin .add (.bin .add (.var 6) (.lit (.int 1))) (.call 16 (.cons (.var 0) (.cons (.bin .sub (.bin .sub (.bi .len (.cons (.var 1) .nil)) (.lit (.int 1))) (.var 6)) .nil)))) (.cons (.call 16 (.cons (.var 0) (.cons (.bi .len (.cons (.idx (.var 1) (.lit (.int 0))) .nil)) .nil))) .nil)))) (.cons (.asg (.nm 7) (.bin .mod (.bi .int (.cons (.bin .add (.bin .add (.var 10) (.lit (.int 1))) (.call 16 (.cons (.var 0) (.cons (.bin .sub (.bi .len (.cons (.idx (.var 1) (.lit (.int 0))) .nil)) (.lit (.int 1))) .nil)))) .nil)) (.bi .len (.cons (.idx (.var 1) (.lit (.int 0))) .nil)))) (.cons (.asg (.nm 8) (.call 18 (.cons (.var 4) (.cons (.tup (.cons (.var 6) (.cons (.var 9) (.cons (.var 10) (.cons (.var 7) .nil))))) .nil)))) (.cons (.ife (.cmp .isnot (.var 8) (.lit .non)) (.cons (.asg (.tp (.cons (.nm 4) (.cons (.nm 5) .nil))) (.tup (.cons (.var 8) (.cons (.bin .add (.var 5) (.lst (.cons (.tup (.cons (.var 6) (.cons (.var 9) (.cons (.var 10) (.cons (.var 7) .nil))))) .nil))) .nil)))) .nil) .nil) .nil)))))
open Classical in
theorem drawn_turn (hh : 2 ≤ h ∧ h ≤ 5) (hw : 2 ≤ w ∧ w ≤ 5) {g : Gr} (hp : P g) {many : D} {t k : Nat} (hk : k ≤ 1000) {e : En} (hi : DI h w g many k e s) :
    ∃ e' s', thenS (evT ⟨callN F (n + 1), th⟩ (.nm 3) (nI t) e s) e (fun e1 s1 => evSs ⟨callN F (n + 1), th⟩ b3 e1 s1) = .nx e' s' ∧ DI h w g many (k + 1) e' s' := by
  obtain ⟨l, c0, c1, x3, x6, x7, x8, x9, x10, hl, hv, ho, p0, p1, rfl, rfl⟩ := hi
  have lenG : ∀ s : Sto, biD .len [rd s (gD h w g)] = some (.int (h : Nat)) := fun s => by simp [gD]
  have rowG : ∀ s : Sto, idxD (rd s (gD h w g)) (.int 0) = some (rD w g 0) := fun s => by simp [gD, show 0 < h by omega]
  have lenR : ∀ s : Sto, biD .len [rd s (rD w g 0)] = some (.int (w : Nat)) := fun s => by simp [rD]
  obtain ⟨r, a0, a1, hr, q0, q1, er⟩ := roll_nat p0 p1 (m := h - 1) (by omega) (by omega)
  obtain ⟨u, b0, b1, hu, q2, q3, eu⟩ := roll_nat q0 q1 (m := h - 1 - r) (by omega) (by omega)
  obtain ⟨cc, d0, d1, hcc, q4, q5, ec⟩ := roll_nat q2 q3 (m := w) (by omega) (by omega)
  obtain ⟨v, f0, f1, hv1, q6, q7, ev⟩ := roll_nat q4 q5 (m := w - 1) (by omega) (by omega)
  have i1 : (h : Int) - 1 = ((h - 1 : Nat) : Int) := by omega
  have i2 : ((h - 1 : Nat) : Int) - (r : Int) = ((h - 1 - r : Nat) : Int) := by omega
  have i3 : (w : Int) - 1 = ((w - 1 : Nat) : Int) := by omega
  have i4 : (r : Int) + 1 + (u : Int) = ((r + 1 + u : Nat) : Int) := by omega
  have i5 : binD .mod (.int ((cc : Int) + 1 + (v : Int))) (.int (w : Int)) = some (.int (((cc + 1 + v) % w : Nat) : Int)) := by
    rw [bin_mod (by omega), modZ_pos (by omega)]
    congr 2
  have hx : okS h w (r, r + 1 + u, cc, (cc + 1 + v) % w) := by
    refine ⟨by simp only; omega, by simp only; omega, ?_, hcc, Nat.mod_lt _ (by omega)⟩
    simp only
    by_cases z : cc + 1 + v < w
    · rw [Nat.mod_eq_of_lt z]; omega
    · rw [Nat.mod_eq_sub_mod (by omega), Nat.mod_eq_of_lt (by omega)]; omega
  have hpe := P_endp hv hp ho
  have hd := w_done (n := n) (th := fun _ => Out.bad) (s := [cup f0 f1]) hh hw hpe hx
  simp only [swD] at hd
  simp only [nI, ev_t_nm, thenS_ok, List.set]
  unfold b3
  simp only [ev_ss_cons, ev_s_asg, ev_call, ev_cons, ev_nil, ev_v0, ev_v1, ev_bin, ev_bi, bind_ok, List.map_cons, List.map_nil, lenG, lift_some, rd_int', ev_lit, bin_sub, i1, er, ev_t_nm, toS_ok, seqS_nx, List.set, ev_tup, ev_v6, bin_add, i2, eu, i4,
    ev_idx, rowG, lenR, ec, ev_t_tp, ev_ts_cons, ev_ts_nil, ev_v10, i3, ev, bi_int, i5, ev_v4, ev_v9, ev_v7, hd]
  by_cases q : can (endp g l) (r, r + 1 + u, cc, (cc + 1 + v) % w)
  · have isn : ∀ (s : Sto) (p : Gr), cmpD .isnot (fz 0 s (gD h w p)) .non = some (.bl true) := fun s p => by rw [fz_id gD_noloc]; rfl
    have ad : binD .add (.lst (l.map swD)) (.lst [.tup [.int (r : Int), .int ((r + 1 + u : Nat) : Int), .int (cc : Int), .int (((cc + 1 + v) % w : Nat) : Int)]]) = some (.lst ((l ++ [(r, r + 1 + u, cc, (cc + 1 + v) % w)]).map swD)) := by
      rw [bin_add_l (by simp; exact big_of (by omega))]
      simp [swD]
    rw [if_pos q]
    simp only [ev_s_ife, ev_cmp, ev_v8, ev_lit, bind_ok, fz_non, isn, lift_some, truth_bl, thenS_ok, if_true, ev_ss_cons, ev_s_asg, ev_tup, ev_cons, ev_nil, ev_bin, ev_v5, ev_lst, ev_v6, ev_v9, ev_v10, ev_v7, rd_lst', ad, ev_t_tp, ev_ts_cons, ev_t_nm, ev_ts_nil, List.set, toS_ok, seqS_nx, ev_ss_nil]
    refine ⟨_, _, rfl, l ++ [(r, r + 1 + u, cc, (cc + 1 + v) % w)], f0, f1, some (.int (t : Nat)), some (.int (r : Nat)), some (.int (((cc + 1 + v) % w : Nat) : Int)), some (gD h w (swp (endp g l) (r, r + 1 + u, cc, (cc + 1 + v) % w))), some (.int ((r + 1 + u : Nat) : Int)), some (.int (cc : Nat)), by simp; exact hl, fun y hy => ?_, ?_, q6, q7, rfl, ?_⟩
    · rcases List.mem_append.mp hy with z | z
      · exact hv y z
      · rw [List.mem_singleton.mp z]; exact hx
    · rw [okp_append]; exact ⟨ho, q, trivial⟩
    · rw [endp_append]; rfl
  · rw [if_neg q]
    simp only [ev_s_ife, ev_cmp, ev_v8, ev_lit, bind_ok, fz_non, cmp_isn_n, lift_some, truth_bl, thenS_ok, Bool.false_eq_true, if_false, ev_ss_nil, seqS_nx]
    exact ⟨_, _, rfl, l, f0, f1, _, _, _, _, _, _, by omega, hv, ho, q6, q7, rfl, rfl⟩
end
end K60
end
section
set_option maxRecDepth 100000
set_option maxHeartbeats 400000
namespace K60
open Pv LawTop
open PySem (Str)
section
variable {n h w : Nat} {th : Sto → Out D} {a b : Gr} {x : Sw} {s : Sto}
theorem w_drawn (hh : 2 ≤ h ∧ h ≤ 5) (hw : 2 ≤ w ∧ w ≤ 5) {g : Gr} (hp : P g) {c0 c1 : Int} (p0 : 0 ≤ c0) (p1 : 0 ≤ c1) {m : Nat} (hm : m ≤ 1000) :
    ∃ l c0' c1', l.length ≤ m ∧ (∀ x ∈ l, okS h w x) ∧ okp g l ∧ 0 ≤ c0' ∧ 0 ≤ c1' ∧ callN F (n + 2) 19 th [.loc 0, gD h w g, .int (m : Nat)] [cup c0 c1] = .ok (.tup [gD h w (endp g l), .tup (l.map swD)]) [cup c0' c1'] := by
  have I0 : DI h w g (.int (m : Nat)) 0 [some (.loc 0), some (gD h w g), some (.int (m : Nat)), none, some (gD h w g), some (.lst []), none, none, none, none, none] [cup c0 c1] :=
    ⟨[], c0, c1, _, _, _, _, _, _, Nat.le_refl _, by simp, trivial, p0, p1, rfl, rfl⟩
  obtain ⟨e', s', hl, hI⟩ := loopS_inv (N := m) (k := 0) (i := nI) (xs := List.range m) (body := fun d e s => thenS (evT ⟨callN F (n + 1), th⟩ (.nm 3) d e s) e fun e1 s1 => evSs ⟨callN F (n + 1), th⟩ b3 e1 s1)
    (Inv := DI h w g (.int (m : Nat))) (by simp) I0 fun t ht k e s hk hi => drawn_turn hh hw hp (by omega) hi
  obtain ⟨l, d0, d1, x3, x6, x7, x8, x9, x10, i1, i2, i3, i4, i5, rfl, rfl⟩ := hI
  refine ⟨l, d0, d1, by simpa using i1, i2, i3, i4, i5, ?_⟩
  have e : evSs ⟨callN F (n + 1), th⟩ b__law_drawn [some (.loc 0), some (gD h w g), some (.int (m : Nat)), none, none, none, none, none, none, none, none] [cup c0 c1] = .ret (.tup [gD h w (endp g l), .tup (l.map swD)]) [cup d0 d1] := by
    unfold b__law_drawn
    rw [ev_ss_cons]
    simp only [ev_s_asg, ev_tup, ev_cons, ev_v1, ev_lst, ev_nil, bind_ok, ev_t_tp, ev_ts_cons, ev_t_nm, ev_ts_nil, List.set, toS_ok, seqS_nx]
    rw [ev_ss_cons, ev_s_for, ev_i_range]
    simp only [ev_cons, ev_v2, ev_nil, bind_ok, rng1 (show m ≤ 5000000 by omega), Option.map_some, liftO_some, thenS_ok]
    unfold b3 at hl
    rw [hl]
    simp
  rw [c__law_drawn e]
  simp only [List.length_cons, List.length_nil, List.take_succ_cons, List.take_zero]
  rw [fz_id (by simp only [noloc, nolocs, gD_noloc, Bool.true_and, Bool.and_true]; simp only [nolocs_iff, List.mem_map]; rintro d ⟨x, _, rfl⟩; simp [swD, noloc, nolocs])]
end
end K60
end
section
set_option maxRecDepth 100000
set_option maxHeartbeats 400000
namespace K60
open Pv LawTop
open PySem (Str)
theorem loopC_ex {α : Type} {body : D → Sto → Out (Option D)} {i : α → D} {Inv : Sto → Prop} {R : D → Prop} : ∀ {xs : List α} {s : Sto}, Inv s → (∀ x ∈ xs, ∀ s, Inv s → ∃ y s', body (i x) s = .ok (some y) s' ∧ R y ∧ Inv s') →
    ∃ ys s', loopC body [] (xs.map i) s = .ok ys s' ∧ ys.length = xs.length ∧ (∀ y ∈ ys, R y) ∧ Inv s'
  | [], s, hi, _ => ⟨[], s, by simp [loopC], rfl, by simp, hi⟩
  | x :: r, s, hi, h => by
    obtain ⟨y, s1, h1, h2, h3⟩ := h x (by simp) s hi
    obtain ⟨ys, s2, g1, g2, g3, g4⟩ := loopC_ex (xs := r) h3 fun z hz => h z (by simp [hz])
    refine ⟨y :: ys, s2, ?_, by simp [g2], fun z hz => ?_, g4⟩
    · simp only [List.map_cons, loopC, gok_nil, if_true]
      rw [h1, bind_ok, g1, bind_ok]
    · rcases List.mem_cons.mp hz with e | e
      · rw [e]; exact h2
      · exact g3 z e
def CI2 (s : Sto) : Prop := ∃ c0 c1, 0 ≤ c0 ∧ 0 ≤ c1 ∧ s = [cup c0 c1]
/-- small ints -/
def smallD (d : D) : Prop := ∃ v : Int, d = .int v ∧ 0 ≤ v ∧ v ≤ 9
theorem ints_of : ∀ {ys : List D}, (∀ y ∈ ys, smallD y) → ∃ ns : List Int, ys = iD ns ∧ ∀ v ∈ ns, 0 ≤ v ∧ v ≤ 9
  | [], _ => ⟨[], rfl, by simp⟩
  | y :: r, h => by
    obtain ⟨v, e, p, q⟩ := h y (by simp)
    obtain ⟨ns, e2, h2⟩ := ints_of (ys := r) fun z hz => h z (by simp [hz])
    refine ⟨v :: ns, by rw [e, e2]; rfl, fun z hz => ?_⟩
    rcases List.mem_cons.mp hz with e | e
    · rw [e]; exact ⟨p, q⟩
    · exact h2 z e
end K60
end
section
set_option maxRecDepth 100000
set_option maxHeartbeats 400000
namespace K60
open Pv LawTop
open PySem (Str)
section
variable {n h w : Nat} {th : Sto → Out D} {a b : Gr} {x : Sw} {s : Sto}
theorem w_row {A1 A2 A3 A4 A5 A6 A8 A9 A10 A11 A12 : Option D} (hw : w ≤ 1000) (hi : CI2 s) : ∃ ns s', evE ⟨callN F (n + 1), th⟩ (.comp [("column", 12)] (.nm 12) (.range (.cons (.var 7) .nil)) .nil (.bi .min (.cons (.lit (.int 9)) (.cons (.call 16 (.cons (.var 0) (.cons (.lit (.int 8)) .nil))) .nil)))) [some (.loc 0), A1, A2, A3, A4, A5, A6, some (.int (w : Nat)), A8, A9, A10, A11, A12] s = .ok (.lst (iD ns)) s' ∧ ns.length = w ∧ (∀ v ∈ ns, 0 ≤ v ∧ v ≤ 9) ∧ CI2 s' := by
  obtain ⟨ys, s', h1, h2, h3, h4⟩ := loopC_ex (i := nI) (xs := List.range w) (Inv := CI2) (R := smallD) (body := fun d s => (evT ⟨callN F (n + 1), th⟩ (.nm 12) d (wipeE [some (.loc 0), A1, A2, A3, A4, A5, A6, some (.int (w : Nat)), A8, A9, A10, A11, A12] [("column", 12)]) s).bind fun e1 s => (evIf ⟨callN F (n + 1), th⟩ .nil e1 s).bind fun k s => if k = true then (evE ⟨callN F (n + 1), th⟩ (.bi .min (.cons (.lit (.int 9)) (.cons (.call 16 (.cons (.var 0) (.cons (.lit (.int 8)) .nil))) .nil))) e1 s).bind fun y s => .ok (some y) s else .ok none s) hi (fun t ht s hs => by
      obtain ⟨c0, c1, p0, p1, rfl⟩ := hs
      obtain ⟨r, d0, d1, q1, q2, q3, q4, e⟩ := w_roll p0 p1 (many := 8) (by omega) (by omega)
      refine ⟨.int (if r < 9 then r else 9), [cup d0 d1], ?_, ⟨_, rfl, by split <;> omega, by split <;> omega⟩, d0, d1, q3, q4, rfl⟩
      simp [wipeE, e])
  obtain ⟨ns, e1, e2⟩ := ints_of h3
  subst e1
  refine ⟨ns, s', ?_, by simpa using h2, e2, h4⟩
  rw [ev_comp', ev_i_range]
  simp only [ev_cons, ev_v7, ev_nil, bind_ok, rng1 (show w ≤ 5000000 by omega), Option.map_some, liftO_some]
  rw [h1]
  simp only [noExc_ok, bind_ok]
  rw [if_pos (by rw [h2, List.length_range]; exact big_of (by omega))]
end
end K60
end
section
set_option maxRecDepth 100000
set_option maxHeartbeats 400000
namespace K60
open Pv LawTop
open PySem (Str)
section
variable {n h w : Nat} {th : Sto → Out D} {a b : Gr} {x : Sw} {s : Sto}
def rowD (w : Nat) (d : D) : Prop := ∃ ns, d = .tup (iD ns) ∧ ns.length = w ∧ ∀ v ∈ ns, 0 ≤ v ∧ v ≤ 9
theorem rows_of : ∀ {ys : List D}, (∀ y ∈ ys, rowD w y) → ∃ rs : List (List Int), ys = rs.map (fun ns => .tup (iD ns)) ∧ ∀ r ∈ rs, r.length = w ∧ ∀ v ∈ r, 0 ≤ v ∧ v ≤ 9
  | [], _ => ⟨[], rfl, by simp⟩
  | y :: r, h => by
    obtain ⟨ns, e, p, q⟩ := h y (by simp)
    obtain ⟨rs, e2, h2⟩ := rows_of (ys := r) fun z hz => h z (by simp [hz])
    refine ⟨ns :: rs, by rw [e, e2]; rfl, fun z hz => ?_⟩
    rcases List.mem_cons.mp hz with e | e
    · rw [e]; exact ⟨p, q⟩
    · exact h2 z e
theorem gr_of {rs : List (List Int)} (hl : rs.length = h) (hr : ∀ r ∈ rs, r.length = w ∧ ∀ v ∈ r, 0 ≤ v ∧ v ≤ 9) : ∃ a : Gr, .tup (rs.map fun ns => .tup (iD ns)) = gD h w a ∧ Z h w a ∧ inG h w a = true := by
  refine ⟨fun i j => (rs.getD i []).getD j 0, ?_, fun i j hn => ?_, ?_⟩
  · unfold gD
    congr 1
    refine List.ext_getElem? fun i => ?_
    by_cases hi : i < h
    · have hi' : i < rs.length := by omega
      rw [row_at hi, List.getElem?_map, List.getElem?_eq_getElem hi']
      simp only [Option.map_some, rD]
      congr 3
      have hw' := (hr rs[i] (List.getElem_mem hi')).1
      refine List.ext_getElem? fun j => ?_
      simp only [List.getD_eq_getElem?_getD, List.getElem?_eq_getElem hi', Option.getD_some]
      by_cases hj : j < w
      · simp [hj, show j < rs[i].length by omega]
      · rw [List.getElem?_eq_none (by omega), List.getElem?_eq_none (by simp; omega)]
    · rw [List.getElem?_eq_none (by simp; omega), List.getElem?_eq_none (by simp; omega)]
  · by_cases hi : i < rs.length
    · have hw' := (hr rs[i] (List.getElem_mem hi)).1
      simp only [List.getD_eq_getElem?_getD, List.getElem?_eq_getElem hi, Option.getD_some]
      rw [List.getElem?_eq_none (by omega)]; rfl
    · simp only [List.getD_eq_getElem?_getD, List.getElem?_eq_none (show rs.length ≤ i by omega), Option.getD_none]
      simp
  · unfold inG
    simp only [List.all_eq_true, List.mem_range, List.mem_map, Bool.and_eq_true, decide_eq_true_eq]
    rintro i hi v ⟨j, hj, rfl⟩
    have hi' : i < rs.length := by omega
    obtain ⟨q1, q2⟩ := hr rs[i] (List.getElem_mem hi')
    simp only [List.getD_eq_getElem?_getD, List.getElem?_eq_getElem hi', Option.getD_some, List.getElem?_eq_getElem (show j < rs[i].length by omega)]
    exact q2 _ (List.getElem_mem _)
theorem w_one {A1 A2 A3 A4 A5 A8 A9 A10 A11 A12 : Option D} (hh : h ≤ 1000) (hw : w ≤ 1000) (hi : CI2 s) : ∃ (a : Gr) (s' : Sto), evE ⟨callN F (n + 1), th⟩ (.bi .tuple (.cons (.comp [("row", 11)] (.nm 11) (.range (.cons (.var 6) .nil)) .nil (.bi .tuple (.cons (.comp [("column", 12)] (.nm 12) (.range (.cons (.var 7) .nil)) .nil (.bi .min (.cons (.lit (.int 9)) (.cons (.call 16 (.cons (.var 0) (.cons (.lit (.int 8)) .nil))) .nil)))) .nil))) .nil)) [some (.loc 0), A1, A2, A3, A4, A5, some (.int (h : Nat)), some (.int (w : Nat)), A8, A9, A10, A11, A12] s = .ok (gD h w a) s' ∧ Z h w a ∧ inG h w a = true ∧ CI2 s' := by
  obtain ⟨ys, s', h1, h2, h3, h4⟩ := loopC_ex (i := nI) (xs := List.range h) (Inv := CI2) (R := rowD w) (body := fun d s => (evT ⟨callN F (n + 1), th⟩ (.nm 11) d (wipeE [some (.loc 0), A1, A2, A3, A4, A5, some (.int (h : Nat)), some (.int (w : Nat)), A8, A9, A10, A11, A12] [("row", 11)]) s).bind fun e1 s => (evIf ⟨callN F (n + 1), th⟩ .nil e1 s).bind fun k s => if k = true then (evE ⟨callN F (n + 1), th⟩ (.bi .tuple (.cons (.comp [("column", 12)] (.nm 12) (.range (.cons (.var 7) .nil)) .nil (.bi .min (.cons (.lit (.int 9)) (.cons (.call 16 (.cons (.var 0) (.cons (.lit (.int 8)) .nil))) .nil)))) .nil)) e1 s).bind fun y s => .ok (some y) s else .ok none s) hi (fun t ht s hs => by
      obtain ⟨ns, s2, e, l, q, i2⟩ := w_row (n := n) (th := th) (A1 := A1) (A2 := A2) (A3 := A3) (A4 := A4) (A5 := A5) (A6 := some (.int (h : Nat))) (A8 := A8) (A9 := A9) (A10 := A10) (A11 := some (nI t)) (A12 := A12) hw hs
      refine ⟨.tup (iD ns), s2, ?_, ⟨ns, rfl, l, q⟩, i2⟩
      simp only [wipeE, ev_t_nm, bind_ok, ev_if_nil, if_true, List.set, ev_bi, ev_cons, ev_nil, e, List.map_cons, List.map_nil, rd_lst', bi_tup_l, lift_some])
  obtain ⟨rs, e1, e2⟩ := rows_of h3
  subst e1
  obtain ⟨a, g1, g2, g3⟩ := gr_of (h := h) (w := w) (by simpa using h2) e2
  refine ⟨a, s', ?_, g2, g3, h4⟩
  rw [ev_bi, ev_cons, ev_comp', ev_i_range]
  simp only [ev_cons, ev_v6, ev_nil, bind_ok, rng1 (show h ≤ 5000000 by omega), Option.map_some, liftO_some]
  rw [h1]
  simp only [noExc_ok, bind_ok]
  rw [if_pos (by rw [h2, List.length_range]; exact big_of (by omega))]
  simp only [bind_ok, List.map_cons, List.map_nil, rd_lst', bi_tup_l, lift_some, g1]
end
end K60
end
section
set_option maxRecDepth 100000
set_option maxHeartbeats 400000
namespace K60
open Pv LawTop
open PySem (Str)
section
variable {n h w : Nat} {th : Sto → Out D} {a b : Gr} {x : Sw} {s : Sto} {c : Cl}
/-- turned about -/
def tr (a : Gr) : Gr := fun i j => a j i
theorem tr_Z (hz : Z h w a) : Z w h (tr a) := fun i j hn => hz j i fun ⟨p, q⟩ => hn ⟨q, p⟩
theorem tr_in : inG h w a = true → inG w h (tr a) = true := by
  unfold inG tr
  simp only [List.all_eq_true, List.mem_range, List.mem_map, Bool.and_eq_true, decide_eq_true_eq]
  rintro hg i hi v ⟨j, hj, rfl⟩
  exact hg j hj _ ⟨i, hi, rfl⟩
theorem tr_same (hs : same2 h w a b) : same2 w h (tr a) (tr b) := ⟨fun i hi => hs.2 i hi, fun j hj => hs.1 j hj⟩
theorem tr_far : far w h (tr a) (tr b) = far h w a b := by
  unfold far tr
  rw [su_swap]
theorem tr_m : mD w h (tr a) = .tup [.tup (iD ((List.range w).map (colS h a))), .tup (iD ((List.range h).map (rowS w a)))] := rfl
end
end K60
end
section
set_option maxRecDepth 100000
set_option maxHeartbeats 400000
namespace K60
open Pv LawTop
open PySem (Str)
section
variable {n h w : Nat} {th : Sto → Out D} {a b : Gr} {x : Sw} {s : Sto} {c : Cl}
theorem tr_one {A0 A1 A2 A3 A4 A5 A6 A8 A9 A11 A12 : Option D} (hh : h ≤ 1000) (hw : w ≤ 1000) : evE c (.bi .tuple (.cons (.comp [("column", 12)] (.nm 12) (.range (.cons (.var 7) .nil)) .nil (.bi .tuple (.cons (.comp [("row", 11)] (.nm 11) (.of (.var 10)) .nil (.idx (.var 11) (.var 12))) .nil))) .nil)) [A0, A1, A2, A3, A4, A5, A6, some (.int (w : Nat)), A8, A9, some (gD h w a), A11, A12] s = .ok (gD w h (tr a)) s := by
  have hb : h ≤ big := big_of (by omega)
  have wb : w ≤ big := big_of (by omega)
  simp only [gD]
  simp [rng1 (show w ≤ 5000000 by omega), wipeE]
  rw [loopC_of (i := nI) (rD h (tr a)) rfl (fun j hj => by
    have hj := List.mem_range.mp hj
    simp [nI]
    rw [loopC_int (i := rD w a) (fun i => a i j) rfl (fun i _ => by simp [rD, cell_at hj])]
    simp [hb, rD, tr]
    rfl)]
  simp [wb]
theorem tr_two {A0 A2 A3 A4 A5 A6 A9 A10 A11 A12 : Option D} (hh : h ≤ 1000) (hw : w ≤ 1000) : evE c (.comp [("grid", 10)] (.nm 10) (.of (.tup (.cons (.var 1) (.cons (.var 8) .nil)))) .nil (.bi .tuple (.cons (.comp [("column", 12)] (.nm 12) (.range (.cons (.var 7) .nil)) .nil (.bi .tuple (.cons (.comp [("row", 11)] (.nm 11) (.of (.var 10)) .nil (.idx (.var 11) (.var 12))) .nil))) .nil))) [A0, some (gD h w a), A2, A3, A4, A5, A6, some (.int (w : Nat)), some (gD h w b), A9, A10, A11, A12] s = .ok (.lst [gD w h (tr a), gD w h (tr b)]) s := by
  rw [ev_comp']
  simp only [ev_i_of, ev_tup, ev_cons, ev_v1, ev_v8, ev_nil, bind_ok, walk_tup, liftO_some, loopC, gok_nil, if_true, wipeE, ev_t_nm, List.set, ev_if_nil, tr_one hh hw, noExc_ok]
  simp [big]
end
end K60
end
section
set_option maxRecDepth 100000
set_option maxHeartbeats 400000
namespace K60
open Pv LawTop
open PySem (Str)
section
variable {n h w : Nat} {th : Sto → Out D} {a b : Gr} {x : Sw} {s : Sto} {c : Cl}
/-- the first statements: the sizes, the grid, the drawn swaps -/
theorem right_start (hi : CI2 s) : ∃ (h w : Nat) (a : Gr) (l : List Sw) (s' : Sto), (2 ≤ h ∧ h ≤ 5) ∧ (2 ≤ w ∧ w ≤ 5) ∧ Z h w a ∧ inG h w a = true ∧ l.length ≤ 20 ∧ (∀ x ∈ l, okS h w x) ∧ okp a l ∧ CI2 s' ∧
    ∀ r : CSs, evSs ⟨callN F (n + 6), th⟩ (.cons (.asg (.tp (.cons (.nm 6) (.cons (.nm 7) .nil))) (.tup (.cons (.bin .add (.lit (.int 2)) (.call 16 (.cons (.var 0) (.cons (.lit (.int 4)) .nil)))) (.cons (.bin .add (.lit (.int 2)) (.call 16 (.cons (.var 0) (.cons (.lit (.int 4)) .nil)))) .nil)))) (.cons (.asg (.nm 1) (.bi .tuple (.cons (.comp [("row", 11)] (.nm 11) (.range (.cons (.var 6) .nil)) .nil (.bi .tuple (.cons (.comp [("column", 12)] (.nm 12) (.range (.cons (.var 7) .nil)) .nil (.bi .min (.cons (.lit (.int 9)) (.cons (.call 16 (.cons (.var 0) (.cons (.lit (.int 8)) .nil))) .nil)))) .nil))) .nil))) (.cons (.asg (.tp (.cons (.nm 8) (.cons (.nm 9) .nil))) (.call 19 (.cons (.var 0) (.cons (.var 1) (.cons (.bin .add (.lit (.int 1)) (.call 16 (.cons (.var 0) (.cons (.lit (.int 20)) .nil)))) .nil))))) r)))
      [some (.loc 0), none, none, none, none, none, none, none, none, none, none, none, none] s
    = evSs ⟨callN F (n + 6), th⟩ r [some (.loc 0), some (gD h w a), none, none, none, none, some (.int (h : Nat)), some (.int (w : Nat)), some (gD h w (endp a l)), some (.tup (l.map swD)), none, none, none] s' := by
  obtain ⟨c0, c1, p0, p1, rfl⟩ := hi
  obtain ⟨r1, a0, a1, hr1, q0, q1, e1⟩ := roll_nat p0 p1 (m := 4) (by omega) (by omega)
  obtain ⟨r2, b0, b1, hr2, q2, q3, e2⟩ := roll_nat q0 q1 (m := 4) (by omega) (by omega)
  have i1 : (2 : Int) + (r1 : Int) = ((2 + r1 : Nat) : Int) := by omega
  have i2 : (2 : Int) + (r2 : Int) = ((2 + r2 : Nat) : Int) := by omega
  obtain ⟨a, s1, e3, hz, hg, ⟨d0, d1, q4, q5, rfl⟩⟩ := w_one (n := n + 5) (th := th) (s := [cup b0 b1]) (h := 2 + r1) (w := 2 + r2) (A1 := none) (A2 := none) (A3 := none) (A4 := none) (A5 := none) (A8 := none) (A9 := none) (A10 := none) (A11 := none) (A12 := none) (by omega) (by omega) ⟨b0, b1, q2, q3, rfl⟩
  obtain ⟨r3, f0, f1, hr3, q6, q7, e4⟩ := roll_nat q4 q5 (m := 20) (by omega) (by omega)
  have i3 : (1 : Int) + (r3 : Int) = ((1 + r3 : Nat) : Int) := by omega
  obtain ⟨l, g0, g1, v1, v2, v3, v4, v5, e5⟩ := w_drawn (n := n + 4) (th := fun _ => Out.bad) (h := 2 + r1) (w := 2 + r2) (by omega) (by omega) (P_of hg hz) q6 q7 (m := 1 + r3) (by omega)
  refine ⟨2 + r1, 2 + r2, a, l, [cup g0 g1], by omega, by omega, hz, hg, by omega, v2, v3, ⟨g0, g1, v4, v5, rfl⟩, fun r => ?_⟩
  have e1' : callN F (n + 6) 16 (fun _ => Out.bad) [.loc 0, .int 4] [cup c0 c1] = .ok (.int (r1 : Int)) [cup a0 a1] := e1 (n + 5) (fun _ => Out.bad)
  have e2' : callN F (n + 6) 16 (fun _ => Out.bad) [.loc 0, .int 4] [cup a0 a1] = .ok (.int (r2 : Int)) [cup b0 b1] := e2 (n + 5) (fun _ => Out.bad)
  have e4' : callN F (n + 6) 16 (fun _ => Out.bad) [.loc 0, .int 20] [cup d0 d1] = .ok (.int (r3 : Int)) [cup f0 f1] := e4 (n + 5) (fun _ => Out.bad)
  rw [ev_ss_cons]
  simp only [ev_s_asg, ev_tup, ev_cons, ev_bin, ev_lit, ev_call, ev_v0, ev_nil, bind_ok, e1', e2', rd_int', bin_add, lift_some, i1, i2, ev_t_tp, ev_ts_cons, ev_t_nm, ev_ts_nil, List.set, toS_ok, seqS_nx]
  rw [ev_ss_cons, ev_s_asg, e3]
  simp only [bind_ok, ev_t_nm, List.set, toS_ok, seqS_nx]
  rw [ev_ss_cons]
  simp only [ev_s_asg, ev_cons, ev_bin, ev_lit, ev_call, ev_v0, ev_v1, ev_nil, bind_ok, e4', rd_int', bin_add, lift_some, i3, e5, ev_t_tp, ev_ts_cons, ev_t_nm, ev_ts_nil, List.set, toS_ok, seqS_nx]
end
end K60
end
section
set_option maxRecDepth 100000
set_option maxHeartbeats 400000
namespace K60
open Pv LawTop
open PySem (Str)
section
variable {n h w : Nat} {th : Sto → Out D} {a b : Gr} {x : Sw} {s : Sto} {c : Cl}
theorem add_sws {l m : List Sw} (h : l.length + m.length ≤ 5000) : binD .add (.tup (l.map swD)) (.tup (m.map swD)) = some (.tup ((l ++ m).map swD)) := by
  rw [bin_add_t (by simp only [List.length_map]; exact big_of h)]
  simp
theorem back_len {l : List Sw} : (back l).length = l.length := by simp [back]
theorem sws_pint {l : List Sw} : pint 60 (.tup (l.map swD)) = true := by
  simp only [pint, pints_iff, List.mem_map]
  rintro d ⟨x, _, rfl⟩
  simp [swD, pint, pints]
theorem same_refl2 : same2 h w a a := ⟨fun _ _ => rfl, fun _ _ => rfl⟩
open Classical in
theorem tk_true (e : gD h w a = gD h w b) : (decide (gD h w a = gD h w b)) = true := decide_eq_true e
theorem lk_mD (hh : h ≤ 5) (hw : w ≤ 5) : lk 2 (mD h w a) = true := by
  have hi : ∀ ns : List Int, (iD ns).all (lk 0) = true := fun ns => by
    simp only [List.all_eq_true, iD, List.mem_map]
    rintro d ⟨z, _, rfl⟩
    simp [lk]
  have h1 : ∀ ns : List Int, ns.length ≤ 5000 → lk 1 (.tup (iD ns)) = true := fun ns hn => by
    simp only [lk, iD_len, hi, Bool.and_true, decide_eq_true_eq]; exact hn
  have e1 := h1 ((List.range h).map (rowS w a)) (by simp; omega)
  have e2 := h1 ((List.range w).map (colS h a)) (by simp; omega)
  unfold mD
  rw [lk]
  simp only [List.all_cons, List.all_nil, e1, e2]
  rfl
theorem take_slc {l : List Sw} : slcD (.tup (l.map swD)) none (some (-1)) = some (.tup ((l.take (l.length - 1)).map swD)) := by
  simp only [slcD, cutD, cutAt]
  congr 2
  simp only [List.length_map, List.drop_zero, Nat.sub_zero]
  rw [if_pos (by omega), List.map_take]
  congr 1
  omega
theorem bool3 : cmpD .ne (.lst [.bl true, .bl true, .bl true]) (.lst (repD 3 [.bl true])) = some (.bl false) := by
  have e : repD 3 [.bl true] = [.bl true, .bl true, .bl true] := rfl
  rw [e]
  simp [cmpD, eqD, plain, plains, eqv, eqvs]
theorem ne_nil {l : List Sw} : cmpD .ne (.tup (l.map swD)) (.tup []) = some (.bl (!l.isEmpty)) := by
  rw [cmp_ne_p sws_pint (by simp [pint, pints])]
  cases l <;> simp
def dropS : Nat → CSs → CSs
  | 0, b => b
  | _, .nil => .nil
  | k + 1, .cons _ r => dropS k r
end
end K60
end
section
set_option maxRecDepth 100000
set_option maxHeartbeats 1000000
namespace K60
open Pv LawTop
open PySem (Str)
section
variable {n h w : Nat} {th : Sto → Out D} {a b : Gr} {x : Sw} {s : Sto} {c : Cl}
theorem take_ok {l : List Sw} {k : Nat} (ho : okp a l) : okp a (l.take k) := by
  have e := ho
  rw [← List.take_append_drop k l, okp_append] at e
  exact e.1
/-- takes, where it leads there -/
theorem tk_yes (hh : 2 ≤ h ∧ h ≤ 5) (hw : 2 ≤ w ∧ w ≤ 5) (hg : inG h w a = true) (hg2 : inG h w b = true) {sw : List Sw} (hl : sw.length ≤ 2000) (hv : ∀ x ∈ sw, okS h w x) (ho : okp a sw) (he : endp a sw = b) :
    callN F (n + 6) 14 th [gD h w a, gD h w b, .tup (sw.map swD)] s = .ok (.bl true) s := by
  subst he
  have hs : same2 h w a (endp a sw) := by
    have q := same_endp (a := a) hv
    exact ⟨fun i hi => (q.1 i hi).symm, fun j hj => (q.2 j hj).symm⟩
  rw [w_takes hh hw hg hg2 hs hl hv ho]
  simp
theorem right_rest (hh : 2 ≤ h ∧ h ≤ 5) (hw : 2 ≤ w ∧ w ≤ 5) (hz : Z h w a) (hg : inG h w a = true) {l : List Sw} (hl : l.length ≤ 20) (hv : ∀ x ∈ l, okS h w x) (ho : okp a l) :
    evSs ⟨callN F (n + 6), th⟩ (dropS 3 b__law_right) [some (.loc 0), some (gD h w a), none, none, none, none, some (.int (h : Nat)), some (.int (w : Nat)), some (gD h w (endp a l)), some (.tup (l.map swD)), none, none, none] s = .ret (.bl true) s := by
  have hp := P_of hg hz
  have hb := back_ok hv hp ho
  have hvb := okS_back hv
  have k1 : callN F (n + 6) 21 (fun _ => Out.bad) [.tup (l.map swD)] s = .ok (.tup ((back l).map swD)) s := w_back (by omega)
  have k2 : callN F (n + 6) 14 (fun _ => Out.bad) [gD h w a, gD h w a, .tup ((l ++ back l).map swD)] s = .ok (.bl true) s :=
    tk_yes hh hw hg hg (by simp [back_len]; omega) (by intro y hy; rcases List.mem_append.mp hy with q | q; exact hv y q; exact hvb y q) (by rw [okp_append]; exact ⟨ho, hb.1⟩) (by rw [endp_append]; exact hb.2)
  have a1 : binD .add (.tup (l.map swD)) (.tup ((back l).map swD)) = some (.tup ((l ++ back l).map swD)) := add_sws (by rw [back_len]; omega)
  have k3 : callN F (n + 6) 3 (fun _ => Out.bad) [gD h w (endp a l)] s = .ok (.bl (inG h w (endp a l))) s := w_grid hh hw
  unfold b__law_right
  simp only [dropS]
  rw [ev_ss_cons]
  simp only [ev_s_ife, ev_cmp, ev_call, ev_cons, ev_nil, ev_v1, ev_v9, ev_bin, ev_lit, bind_ok, k1, rd_tup', a1, lift_some, k2, fz_bl, cmp_isn_b, truth_bl, thenS_ok, decide_true, Bool.not_true, Bool.false_eq_true, if_false, ev_ss_nil, seqS_nx]
  rw [ev_ss_cons]
  simp only [ev_s_ife, ev_cmp, ev_call, ev_cons, ev_nil, ev_v8, ev_lit, bind_ok, k3, lift_some, fz_bl, cmp_isn_b, truth_bl, thenS_ok]
  by_cases q : inG h w (endp a l) = true
  case neg =>
    have q' : inG h w (endp a l) = false := by simpa using q
    have d1 : decide (false = true) = false := rfl
    simp only [q', d1, Bool.not_false, if_true, ev_ss_cons, ev_s_ret, ev_lit, thenS_ok, seqS_ret]
  rw [q]
  simp only [decide_true, Bool.not_true, Bool.false_eq_true, if_false, ev_ss_nil, seqS_nx]
  obtain ⟨b, hbe⟩ : ∃ b, b = endp a l := ⟨_, rfl⟩
  have hzb : Z h w b := by rw [hbe]; exact Z_endp hv hz
  have hs0 := same_endp (a := a) hv
  rw [← hbe] at q hb hs0 ⊢
  have hs : same2 h w a b := ⟨fun i hi => (hs0.1 i hi).symm, fun j hj => (hs0.2 j hj).symm⟩
  have hpb := P_of q hzb
  have k4 : callN F (n + 6) 6 (fun _ => Out.bad) [gD h w b] s = .ok (mD h w b) s := w_margins (n := n + 1) hh hw q
  have k5 : callN F (n + 6) 6 (fun _ => Out.bad) [gD h w a] s = .ok (mD h w a) s := w_margins (n := n + 1) hh hw hg
  have k6 : callN F (n + 6) 14 (fun _ => Out.bad) [gD h w a, gD h w b, .tup (l.map swD)] s = .ok (.bl true) s := tk_yes hh hw hg q (by omega) hv ho hbe.symm
  have k7 : callN F (n + 6) 17 (fun _ => Out.bad) [.tup [mD h w a, .bl true], .tup [mD h w a, .bl true]] s = .ok (.bl true) s := by
    refine w_like (n := n + 2) 3 _ ?_
    rw [lk]
    simp only [List.all_cons, List.all_nil, lk_mD hh.2 hw.2, lk]
    rfl
  rw [ev_ss_cons]
  simp only [ev_s_ife, ev_not, ev_call, ev_cons, ev_tup, ev_nil, ev_v1, ev_v8, ev_v9, ev_lit, bind_ok, k4, k5, k6, ← mD_eq hs, k7, truth_bl, thenS_ok, Bool.not_true, Bool.false_eq_true, if_false, ev_ss_nil, seqS_nx]
  obtain ⟨sw, s1, s2, s3, s4, s5, s6⟩ := w_between (n := n) (th := fun _ => Out.bad) (s := s) hh hw hg q hs hz hzb
  have hfar := far_le hh.2 hw.2 hg q
  rw [ev_ss_cons]
  simp only [ev_s_asg, ev_call, ev_cons, ev_nil, ev_v1, ev_v8, bind_ok, s6, ev_t_nm, List.set, toS_ok, seqS_nx]
  have k8 : callN F (n + 6) 20 (fun _ => Out.bad) [gD h w a, gD h w b] s = .ok (.int (far h w a b)) s := w_far hh.2 hw.2
  have k9 : callN F (n + 6) 22 (fun _ => Out.bad) [gD h w a, gD h w b, .tup (sw.map swD)] s = .ok (.bl true) s := by
    rw [w_leads hh hw hp s1 s2, s3]; simp
  have m1 : binD .mul (.int 2) (.int ((sw.map swD).length : Nat)) = some (.int (2 * (sw.length : Int))) := by
    rw [bin_mul (mul_small (by simp; omega))]; simp
  have n1 : decide (far h w a b < 2 * (sw.length : Int)) = false := decide_eq_false (by omega)
  rw [ev_ss_cons]
  simp only [ev_s_ife, ev_or, ev_not, ev_cmp, ev_bin, ev_bi, ev_call, ev_cons, ev_nil, ev_v1, ev_v2, ev_v8, ev_lit, bind_ok, List.map_cons, List.map_nil, rd_tup', bi_len_t, lift_some, rd_int', m1, k8, fz_int, cmp_gt, n1, truth_bl, k9, thenS_ok, Bool.not_true, Bool.false_eq_true, if_false, ev_ss_nil, seqS_nx]
  have hsb := back_ok s1 hp s2
  rw [s3] at hsb
  have hvsb := okS_back s1
  have g1 : callN F (n + 6) 21 (fun _ => Out.bad) [.tup (sw.map swD)] s = .ok (.tup ((back sw).map swD)) s := w_back (by omega)
  have g2 : callN F (n + 6) 14 (fun _ => Out.bad) [gD h w b, gD h w a, .tup ((back sw).map swD)] s = .ok (.bl true) s := tk_yes hh hw q hg (by rw [back_len]; omega) hvsb hsb.1 hsb.2
  have a2 : binD .add (.tup (sw.map swD)) (.tup ((back l).map swD)) = some (.tup ((sw ++ back l).map swD)) := add_sws (by rw [back_len]; omega)
  have g3 : callN F (n + 6) 14 (fun _ => Out.bad) [gD h w a, gD h w a, .tup ((sw ++ back l).map swD)] s = .ok (.bl true) s :=
    tk_yes hh hw hg hg (by simp [back_len]; omega) (by intro y hy; rcases List.mem_append.mp hy with q | q; exact s1 y q; exact hvb y q) (by rw [okp_append, s3]; exact ⟨s2, hb.1⟩) (by rw [endp_append, s3]; exact hb.2)
  have g4 : callN F (n + 6) 14 (fun _ => Out.bad) [gD h w a, gD h w b, .tup (sw.map swD)] s = .ok (.bl true) s := tk_yes hh hw hg q (by omega) s1 s2 s3
  rw [ev_ss_cons]
  simp only [ev_s_asg, ev_lst, ev_call, ev_cons, ev_nil, ev_v1, ev_v2, ev_v8, ev_v9, ev_bin, bind_ok, g1, g2, k1, rd_tup', a2, lift_some, g3, g4, ev_t_nm, List.set, toS_ok, seqS_nx]
  have r3 : binD .mul (.lst [.bl true]) (.int 3) = some (.lst (repD 3 [.bl true])) := rfl
  have nl3 : noloc (.lst [.bl true, .bl true, .bl true]) = true := rfl
  have nr3 : noloc (.lst (repD 3 [.bl true])) = true := rfl
  have nle : noloc (.tup []) = true := rfl
  have g5 : (evE ⟨callN F (n + 6), th⟩ (.and (.cmp .ne (.var 2) (.tup .nil)) (.cmp .isnot (.call 14 (.cons (.var 1) (.cons (.var 8) (.cons (.slc (.var 2) .nil (.cons (.neg (.lit (.int 1))) .nil)) .nil)))) (.lit (.bl false)))) [some (.loc 0), some (gD h w a), some (.tup (sw.map swD)), some (.lst [.bl true, .bl true, .bl true]), none, none, some (.int (h : Nat)), some (.int (w : Nat)), some (gD h w b), some (.tup (l.map swD)), none, none, none] s) = .ok (.bl false) s := by
    simp only [ev_and, ev_cmp, ev_v2, ev_tup, ev_nil, bind_ok, fz_id sws_noloc, fz_id nle, ne_nil, lift_some, truth_bl]
    cases sw with
    | nil => simp
    | cons y ys =>
      simp only [List.isEmpty_cons, Bool.not_false, if_true]
      have e1 : evE ⟨callN F (n + 6), th⟩ (.slc (.var 2) .nil (.cons (.neg (.lit (.int 1))) .nil)) [some (.loc 0), some (gD h w a), some (.tup ((y :: ys).map swD)), some (.lst [.bl true, .bl true, .bl true]), none, none, some (.int (h : Nat)), some (.int (w : Nat)), some (gD h w b), some (.tup (l.map swD)), none, none, none] s = .ok (.tup (((y :: ys).take ((y :: ys).length - 1)).map swD)) s := by
        rw [evE]
        simp only [ev_v2, ev_nil, ev_cons, ev_neg, ev_lit, bind_ok, neg_int, lift_some, optI, rd_tup']
        rw [take_slc]; rfl
      have g6 : callN F (n + 6) 14 (fun _ => Out.bad) [gD h w a, gD h w b, .tup (((y :: ys).take ((y :: ys).length - 1)).map swD)] s = .ok (.bl false) s := by
        rw [w_takes hh hw hg q hs (by simp at hfar s4 ⊢; omega) (fun z hz => s1 z (List.mem_of_mem_take hz)) (take_ok s2)]
        have := s5 ((y :: ys).length - 1) (by simp)
        simp only [this, decide_false]
      simp only [ev_call, ev_cons, ev_v1, ev_v8, e1, bind_ok, ev_nil, g6, ev_lit, fz_bl, cmp_isn_b, lift_some]
      simp
  rw [ev_ss_cons]
  rw [ev_s_ife, ev_or, ev_cmp]
  simp only [ev_v3, ev_bin, ev_lst, ev_cons, ev_lit, ev_nil, bind_ok, rd_lst', rd_int', r3, lift_some, fz_id nl3, fz_id nr3, bool3, truth_bl, Bool.false_eq_true, if_false, g5, thenS_ok, ev_ss_nil, seqS_nx]
  rw [ev_ss_cons, ev_s_asg, tr_two (by omega) (by omega)]
  simp only [bind_ok, ev_t_nm, List.set, toS_ok, seqS_nx]
  have p1 := tr_in hg
  have p2 := tr_in q
  have p3 := tr_same hs
  have t1 : callN F (n + 6) 6 (fun _ => Out.bad) [gD w h (tr a)] s = .ok (mD w h (tr a)) s := w_margins (n := n + 1) hw hh p1
  have t2 : callN F (n + 6) 17 (fun _ => Out.bad) [mD w h (tr a), mD w h (tr a)] s = .ok (.bl true) s := w_like (n := n + 3) 2 _ (lk_mD hw.2 hh.2)
  have t3 : revD (rd s (mD h w a)) = some (mD w h (tr a)) := rfl
  have x0 : ∀ p q : D, atD [p, q] 0 = some p := fun _ _ => rfl
  have x1 : ∀ p q : D, atD [p, q] 1 = some q := fun _ _ => rfl
  rw [ev_ss_cons]
  simp only [ev_s_ife, ev_not, ev_call, ev_cons, ev_nil, ev_idx, ev_slr, ev_v1, ev_v4, ev_lit, bind_ok, rd_lst', ix_l, x0, lift_some, t1, k5, t3, t2, truth_bl, Bool.not_true, Bool.false_eq_true, if_false, thenS_ok, ev_ss_nil, seqS_nx]
  obtain ⟨sv, v1, v2, v3, v4, v5, v6⟩ := w_between (n := n) (th := fun _ => Out.bad) (s := s) hw hh p1 p2 p3 (tr_Z hz) (tr_Z hzb)
  rw [tr_far] at v4
  rw [ev_ss_cons]
  simp only [ev_s_asg, ev_call, ev_cons, ev_nil, ev_idx, ev_v4, ev_lit, bind_ok, rd_lst', ix_l, x0, x1, lift_some, v6, ev_t_nm, List.set, toS_ok, seqS_nx]
  have m2 : binD .mul (.int 2) (.int ((sv.map swD).length : Nat)) = some (.int (2 * (sv.length : Int))) := by
    rw [bin_mul (mul_small (by simp; omega))]; simp
  have t4 : callN F (n + 6) 14 (fun _ => Out.bad) [gD w h (tr a), gD w h (tr b), .tup (sv.map swD)] s = .ok (.bl true) s := tk_yes hw hh p1 p2 (by omega) v1 v2 v3
  have n2 : decide (2 * (sv.length : Int) ≤ far h w a b) = true := decide_eq_true v4
  rw [ev_ss_cons]
  simp only [ev_s_ret, ev_and, ev_cmp, ev_bin, ev_bi, ev_call, ev_cons, ev_nil, ev_idx, ev_v1, ev_v4, ev_v5, ev_v8, ev_lit, bind_ok, List.map_cons, List.map_nil, rd_tup', bi_len_t, lift_some, rd_int', m2, k8, fz_int, cmp_le, n2, truth_bl, if_true, rd_lst', ix_l, x0, x1, t4, fz_bl, cmp_is_b, decide_true, thenS_ok, seqS_ret]
theorem w_right (hi : CI2 s) : ∃ s', callN F (n + 7) 23 th [.loc 0] s = .ok (.bl true) s' ∧ CI2 s' := by
  obtain ⟨h, w, a, l, s', hh, hw, hz, hg, hl, hv, ho, hi', e⟩ := right_start (n := n) (th := th) hi
  refine ⟨s', ?_, hi'⟩
  have e1 : evSs ⟨callN F (n + 6), th⟩ b__law_right [some (.loc 0), none, none, none, none, none, none, none, none, none, none, none, none] s = .ret (.bl true) s' := by
    have := e (dropS 3 b__law_right)
    rw [right_rest hh hw hz hg hl hv ho] at this
    exact this
  rw [c__law_right e1]
  obtain ⟨_, _, _, _, rfl⟩ := hi
  obtain ⟨_, _, _, _, rfl⟩ := hi'
  simp
end
end K60
end
section
set_option maxRecDepth 100000
set_option maxHeartbeats 1000000
namespace K60
open Pv LawTop
open PySem (Str)
theorem loopC_none {α : Type} {body : D → Sto → Out (Option D)} {i : α → D} {Inv : Sto → Prop} : ∀ {xs : List α} {s : Sto}, Inv s → (∀ x ∈ xs, ∀ s, Inv s → ∃ s', body (i x) s = .ok none s' ∧ Inv s') →
    ∃ s', loopC body [] (xs.map i) s = .ok [] s' ∧ Inv s'
  | [], s, hi, _ => ⟨s, by simp [loopC], hi⟩
  | x :: r, s, hi, h => by
    obtain ⟨s1, h1, h3⟩ := h x (by simp) s hi
    obtain ⟨s2, g1, g4⟩ := loopC_none (xs := r) h3 fun z hz => h z (by simp [hz])
    refine ⟨s2, ?_, g4⟩
    simp only [List.map_cons, loopC, gok_nil, if_true]
    rw [h1, bind_ok, g1, bind_ok]
def takeS : Nat → CSs → CSs
  | 0, _ => .nil
  | _, .nil => .nil
  | k + 1, .cons a r => .cons a (takeS k r)
theorem ss_app {c : Cl} : ∀ (k : Nat) (b : CSs) (e : En) (s : Sto), evSs c b e s = seqS (evSs c (takeS k b) e s) fun e s => evSs c (dropS k b) e s
  | 0, b, e, s => by simp [takeS, dropS]
  | k + 1, .nil, e, s => by simp [takeS, dropS]
  | k + 1, .cons a r, e, s => by
    simp only [takeS, dropS, ev_ss_cons]
    cases h : evS c a e s with
    | nx e1 s1 => simp only [seqS_nx]; exact ss_app k r e1 s1
    | _ => rfl
def g1 : D := .tup [.tup [.int 1, .int 0, .int 0], .tup [.int 0, .int 1, .int 0], .tup [.int 0, .int 0, .int 1]]
def g2 : D := .tup [.tup [.int 0, .int 1, .int 0], .tup [.int 0, .int 0, .int 1], .tup [.int 1, .int 0, .int 0]]
def g3 : D := .tup [.tup [.int 9, .int 1], .tup [.int 1, .int 9]]
def g4 : D := .tup [.tup [.int 8, .int 2], .tup [.int 2, .int 8]]
def g5 : D := .tup [.tup [.int 0, .int 1, .int 0, .int 1]]
def g6 : D := .tup [.tup [.int 0, .int 1, .int 1, .int 0]]
theorem law_start (x : D) : evSs ⟨callN F 39, fun _ => .bad⟩ (takeS 6 b_law) [some x, none, none, none, none, none, none, none, none, none] [] = .nx [some x, some (.tup [.bl true, .bl false]), none, some g1, some g2, some g3, some g4, some g5, some g6, none] [] := by kernel_rfl
theorem hrun (ns : List Int) (hl : ns.length ≤ 63) : ∃ s', callN F 40 24 (fun _ => .bad) [.lst (iD ns)] [] = .ok (.bl true) s' := by
  obtain ⟨c0, c1, p0, p1, ec⟩ := w_cup (n := 38) (th := fun _ => Out.bad) (s := []) hl
  have tb : belows 0 [D.int c0, D.int c1] = true := rfl
  obtain ⟨s', e1, hi⟩ := loopC_none (i := nI) (xs := List.range 8) (s := [cup c0 c1]) (Inv := CI2)
    (body := fun d s => (evT ⟨callN F 39, fun _ => .bad⟩ (.nm 9) d (wipeE [some (.lst (iD ns)), some (.tup [.bl true, .bl false]), some (.loc 0), some g1, some g2, some g3, some g4, some g5, some g6, none] [("turn", 9)]) s).bind fun e1 s => (evIf ⟨callN F 39, fun _ => .bad⟩ (.cons (.not (.call 23 (.cons (.var 2) .nil))) .nil) e1 s).bind fun k s => if k = true then (evE ⟨callN F 39, fun _ => .bad⟩ (.var 9) e1 s).bind fun y s => .ok (some y) s else .ok none s)
    ⟨c0, c1, p0, p1, rfl⟩ (fun t _ s hs => by
      obtain ⟨s', e, hs'⟩ := w_right (n := 32) (th := fun _ => Out.bad) hs
      refine ⟨s', ?_, hs'⟩
      simp [wipeE, e])
  have e : evSs ⟨callN F 39, fun _ => .bad⟩ b_law [some (.lst (iD ns)), none, none, none, none, none, none, none, none, none] [] = .ret (.bl true) s' := by
    rw [ss_app 6, law_start, seqS_nx]
    unfold b_law
    simp only [dropS]
    rw [ev_ss_cons]
    simp only [ev_s_asg, ev_thaw', ev_call, ev_cons, ev_v0, ev_nil, bind_ok, ec, cup, thawO_lst, List.length_nil, tb, if_true, List.nil_append, ev_t_nm, List.set, toS_ok, seqS_nx]
    rw [ev_ss_cons, ev_s_ret, ev_cmp, ev_comp', ev_i_range]
    simp only [ev_cons, ev_lit, ev_nil, bind_ok]
    rw [show (D.int 8) = .int ((8 : Nat) : Int) from rfl, rng1 (n := 8) (by omega)]
    simp only [Option.map_some, liftO_some, bind_ok]
    have e1' := e1
    simp only [cup] at e1'
    rw [e1']
    have nl : noloc (.lst []) = true := rfl
    simp only [noExc_ok, bind_ok, List.length_nil, Nat.zero_le, if_true, ev_lst, ev_nil, fz_id nl, cmp_nil, lift_some, thenS_ok, seqS_ret]
  have e2 := c_law (n := 39) (th := fun _ => Out.bad) e
  exact ⟨_, e2⟩
end K60
end
theorem PySem.Challenge.cw_blendhouse_k60_swaps_there_and_back_holds : PySem.Challenge.rw_blendhouse_k60_swaps_there_and_back.Holds :=
  claim_of K60.hrun
