import PyProof.Rows.All
import Wide.All
import OpenK.AllK
import Wide.FinOn
import HandS.ForMost
import HandS.IsInst
import HandS.Deep
import HandS.TupAny
import HandS.Style
import HandS.Walk
import HandS.Conv
import HandS.DictComp
import KE.DataEq
import KE.LtData
import KE.SortData
import HandS.Codes
import PySem.Challenge.RW_eachtoone_k01_words_and_leads
set_option Elab.async false
set_option linter.all false
set_option maxRecDepth 100000
/-! Ev1: the small language (expressions Ex, statements Sx) over data trees, and what it computes. -/
namespace Ev
open PySem L2

/-- how a result stands: im: nobody will change it; fr: a new list or dict that nobody else holds; bo: the list or dict of slot i, as it is now -/
inductive Kd where
  | im | fr | bo (i : Nat)
  deriving DecidableEq
structure Rs where
  k : Kd
  d : PyData
/-- a slot: nothing; data for good; a list or dict of its own; the same, locked -/
inductive Sl where
  | no | im (d : PyData) | ow (d : PyData) | lk (d : PyData)
abbrev Stt := List Sl

inductive Bo where
  | add | sub | mul | fdiv | mod
  deriving DecidableEq
inductive Co where
  | lt | le | gt | ge | eq | ne | isn | nin
  | «in» | notin
  deriving DecidableEq
inductive Ty where
  | str | int | bool | tuple | list
  deriving DecidableEq
/-- built-in functions of one argument -/
inductive B1 where
  | len | all | any | list | tuple | int | sum | sorted | str
  deriving DecidableEq
inductive B2 where
  | min | max
  deriving DecidableEq
/-- methods -/
inductive Mt where
  | join | startswith | index
  deriving DecidableEq
inductive Ik where
  | ex | r1 | r2
  deriving DecidableEq
inductive Tg where
  | n (i : Nat) | t (is : List Nat)
  deriving DecidableEq

inductive Ex where
  | nm (i : Nat)
  | mv (i : Nat)
  | cs (d : PyData)
  | gl (g : Nat)
  | bin (o : Bo) (a b : Ex)
  | cmp (o : Co) (a b : Ex)
  | chn (o1 o2 : Co) (a b c : Ex)
  | and (a b : Ex)
  | or (a b : Ex)
  | not (a : Ex)
  | ife (c a b : Ex)
  | tup (es : List Ex)
  | lst (es : List Ex)
  | dic (t : Bool) (es : List Ex)
  | sub (a b : Ex)
  | slc (a : Ex) (lo hi : List Ex)
  | rev (a : Ex)
  | call (f : Nat) (es : List Ex)
  | calli (f : Nat) (i : Nat) (es : List Ex)
  | b1 (b : B1) (a : Ex)
  | b2 (b : B2) (a c : Ex)
  | isi (a : Ex) (t : Ty)
  | mt (m : Mt) (a : Ex) (b : Ex)
  | comp (e : Ex) (tg : Tg) (k : Ik) (its : List Ex) (cs : List Ex) (own : List (Str × Nat))
  | comp2 (e : Ex) (tg : Tg) (k : Ik) (its : List Ex) (tg1 : Tg) (k1 : Ik) (its1 : List Ex) (cs : List Ex) (own : List (Str × Nat))

inductive Sx where
  | set (i : Nat) (o : Bool) (e : Ex)
  | unp (is : List Nat) (e : Ex)
  | par (i j : Nat) (oi oj : Bool) (a b : Ex)
  | aug (i : Nat) (o : Bo) (e : Ex)
  | exp (e : Ex)
  | app (i : Nat) (e : Ex)
  | ext (i : Nat) (e : Ex)
  | put (i : Nat) (k e : Ex)
  | ret (e : Ex)
  | retf (e : Ex)
  | new (i f : Nat) (es : List Ex)
  | ite (c : Ex) (a b : List Sx)
  | whl (c : Ex) (b : List Sx)
  | «for» (tg : Tg) (k : Ik) (its : List Ex) (b : List Sx)
  | brk | cnt | pass

/-! ### data -/
def S (l : List Nat) : Str := ⟨l.toArray⟩
theorem S_cps (l : List Nat) : (S l).cps.toList = l := by simp [S]
theorem S_inj {a b : List Nat} (h : S a = S b) : a = b := by
  have e := congrArg (fun z => Str.cps z |>.toList) h
  simpa [S] using e
theorem S_len (l : List Nat) : (S l).length = l.length := by simp [S, Str.length]
theorem S_all (s : Str) : S s.cps.toList = s := by cases s; simp [S]

mutual
/-- no list and no dict within -/
def flat : PyData → Bool
  | .none | .bool _ | .int _ | .str _ => true
  | .tuple xs => flatL xs
  | .list _ | .dict _ => false
def flatL : List PyData → Bool
  | [] => true
  | x :: xs => flat x && flatL xs
end

/-- equality as Python has it, where it is served -/
def eqD : PyData → PyData → Option Bool
  | .none, .none => some true
  | .str x, .str y => some (decide (x = y))
  | .int x, .int y => some (decide (x = y))
  | .bool x, .bool y => some (decide (x = y))
  | a, b => if a.plain && b.plain && decide (min a.depth b.depth ≤ 64) then some (PyData.eqv a b) else none

/-- Python's order, where it is served -/
def ltD : PyData → PyData → Option Bool
  | .int x, .int y => some (decide (x < y))
  | .str x, .str y => some (decide (x.cps.toList < y.cps.toList))
  | .none, _ => none
  | a, b => if PySem.W.alike a b && a.plain && b.plain && decide (min a.depth b.depth ≤ 64) then some (PySem.W.dataLt a b) else none

/-- membership -/
def inD (x : PyData) : PyData → Option Bool
  | .list ds | .tuple ds => if x.plain && PyData.plainAll ds && decide (min (PyData.depthAll ds) x.depth ≤ 64) then some (ds.any fun z => PyData.eqv z x) else none
  | .str z => match x with
    | .str y => some (!(Builtin.Str.occurrences z y 0 z.length 1).isEmpty)
    | _ => none
  | _ => none

def big : Nat := 2 ^ 64
def addD : PyData → PyData → Option Rs
  | .int i, .int j => some ⟨.im, .int (i + j)⟩
  | .str x, .str y => if x.length + y.length ≤ sizeLine then some ⟨.im, .str (x ++ y)⟩ else none
  | .tuple xs, .tuple ys => if xs.length + ys.length ≤ sizeLine then some ⟨.im, .tuple (xs ++ ys)⟩ else none
  | .list xs, .list ys => if xs.length + ys.length ≤ sizeLine then some ⟨.fr, .list (xs ++ ys)⟩ else none
  | _, _ => none
def binD (o : Bo) (a b : PyData) : Option Rs :=
  match o with
  | .add => addD a b
  | .sub => match a, b with
    | .int i, .int j => some ⟨.im, .int (i - j)⟩
    | _, _ => none
  | .mul => match a, b with
    | .int i, .int j => if (-(2 ^ 64) < i ∧ i < 2 ^ 64) ∨ (-(2 ^ 64) < j ∧ j < 2 ^ 64) then some ⟨.im, .int (i * j)⟩ else none
    | _, _ => none
  | .fdiv => match a, b with
    | .int i, .int j => if 0 < j ∧ j < 1073741824 then some ⟨.im, .int (i / j)⟩ else none
    | _, _ => none
  | .mod => match a, b with
    | .int i, .int j => if 0 < j then some ⟨.im, .int (i % j)⟩ else none
    | _, _ => none
def cmpD (o : Co) (a b : PyData) : Option Bool :=
  match o with
  | .eq => eqD a b
  | .ne => (eqD a b).map (!·)
  | .lt => ltD a b
  | .gt => match a, b with
    | .int i, .int j => some (decide (j < i))
    | _, _ => none
  | .le => match a, b with
    | .int i, .int j => some (decide (i ≤ j))
    | _, _ => none
  | .ge => match a, b with
    | .int i, .int j => some (decide (j ≤ i))
    | _, _ => none
  | .isn => match a, b with
    | .none, .none => some true
    | _, .none => some false
    | _, _ => none
  | .nin => match a, b with
    | .none, .none => some false
    | _, .none => some true
    | _, _ => none
  | .in => inD a b
  | .notin => (inD a b).map (!·)

def itemsD : PyData → Option (List PyData)
  | .list ds | .tuple ds => some ds
  | .str z => some (z.cps.toList.map fun c => .str ⟨#[c]⟩)
  | _ => none
def lenD : PyData → Option Nat
  | .list ds | .tuple ds => some ds.length
  | .str z => if z.length ≤ sizeLine then some z.length else none
  | _ => none
def subD (a b : PyData) : Option PyData :=
  match a, b with
  | .list ds, .int i | .tuple ds, .int i => atI ds i
  | .str z, .int i => if z.length ≤ sizeLine then (atI z.cps.toList i).map fun c => .str ⟨#[c]⟩ else none
  | _, _ => none
def cutD (ds : List PyData) (lo hi : Option Int) : List PyData := (ds.drop (HT.sIx ds.length 0 lo)).take (HT.sIx ds.length ds.length hi - HT.sIx ds.length 0 lo)
def optI : List Rs → Option (Option Int)
  | [] => some none
  | [⟨_, .int i⟩] => some (some i)
  | _ => none
def slcD (a : PyData) (lo hi : Option Int) : Option Rs :=
  match a with
  | .list ds => some ⟨.fr, .list (cutD ds lo hi)⟩
  | .tuple ds => some ⟨.im, .tuple (cutD ds lo hi)⟩
  | .str z => if z.length ≤ sizeLine then some ⟨.im, .str (cutS z lo hi)⟩ else none
  | _ => none
def revD : PyData → Option Rs
  | .list ds => some ⟨.fr, .list ds.reverse⟩
  | .str z => if z.length ≤ sizeLine then some ⟨.im, .str (S z.cps.toList.reverse)⟩ else none
  | _ => none
def boolsD : List PyData → Option (List Bool)
  | [] => some []
  | .bool b :: r => (boolsD r).map (b :: ·)
  | _ => none
def textsD : List PyData → Option (List Str)
  | [] => some []
  | .str z :: r => (textsD r).map (z :: ·)
  | _ => none
def numsD : List PyData → Option (List Int)
  | [] => some []
  | .int z :: r => (numsD r).map (z :: ·)
  | _ => none
def b1D (b : B1) (a : PyData) : Option Rs :=
  match b with
  | .len => (lenD a).map fun n => ⟨.im, .int (n : Nat)⟩
  | .all => match a with
    | .list ds => (boolsD ds).map fun l => ⟨.im, .bool (l.all id)⟩
    | _ => none
  | .any => match a with
    | .list ds => (boolsD ds).map fun l => ⟨.im, .bool (l.any id)⟩
    | _ => none
  | .list => match a with
    | .list ds | .tuple ds => some ⟨.fr, .list ds⟩
    | _ => none
  | .tuple => match a with
    | .list ds | .tuple ds => some ⟨.im, .tuple ds⟩
    | _ => none
  | .int => match a with
    | .int i => some ⟨.im, .int i⟩
    | _ => none
  | .sum => match a with
    | .list ds => (numsD ds).map fun l => ⟨.im, .int l.sum⟩
    | _ => none
  | .sorted | .str => none
def b2D (b : B2) (a c : PyData) : Option Rs :=
  match b, a, c with
  | .min, .int i, .int j => some ⟨.im, .int (if j < i then j else i)⟩
  | .max, .int i, .int j => some ⟨.im, .int (if j > i then j else i)⟩
  | _, _, _ => none
def isiD (a : PyData) (t : Ty) : Bool :=
  match t, a with
  | .str, .str _ => true
  | .int, .int _ | .int, .bool _ => true
  | .bool, .bool _ => true
  | .tuple, .tuple _ => true
  | .list, .list _ => true
  | _, _ => false
def mtD (m : Mt) (a b : PyData) : Option Rs :=
  match m, a, b with
  | .join, .str z, .list ds => (textsD ds).bind fun ys => if (ys.map (·.length)).sum + ys.length * z.length ≤ 16777216 then some ⟨.im, .str (Txt.join z ys)⟩ else none
  | .startswith, .str z, .str y => some ⟨.im, .bool (Txt.startswith z y)⟩
  | _, _, _ => none
def rng (a b : Int) : List PyData := (List.range (b - a).toNat).map fun (k : Nat) => .int (a + (k : Int))
def itD (k : Ik) (rs : List Rs) : Option (List PyData) :=
  match k, rs with
  | .ex, [r] => itemsD r.d
  | .r1, [⟨_, .int j⟩] => if -(2 ^ 62) ≤ j ∧ j < 2 ^ 62 then some (rng 0 j) else none
  | .r2, [⟨_, .int i⟩, ⟨_, .int j⟩] => if -(2 ^ 62) ≤ i ∧ i < 2 ^ 62 ∧ -(2 ^ 62) ≤ j ∧ j < 2 ^ 62 then some (rng i j) else none
  | _, _ => none

/-! ### slots -/
def lockR (r : Rs) (s : Stt) : Stt :=
  match r.k with
  | .bo i => match s[i]? with
    | some (.ow d) => s.set i (.lk d)
    | _ => s
  | _ => s
def unlockR (r : Rs) (s s' : Stt) : Stt :=
  match r.k with
  | .bo i => match s[i]? with
    | some (.ow d) => s'.set i (.ow d)
    | _ => s'
  | _ => s'
def lockL : List Rs → Stt → Stt
  | [], s => s
  | r :: rs, s => lockL rs (lockR r s)
/-- a list in slot 0 stays there -/
def pinned (s : Stt) (i : Nat) : Bool := match i, s with
  | 0, .ow _ :: _ => true
  | _, _ => false
/-- a slot takes data for good (a slot that is locked can't be written) -/
def putS (s : Stt) (i : Nat) (x : Sl) : Option Stt :=
  match s[i]? with
  | some (.lk _) | none => none
  | _ => if pinned s i then none else some (s.set i x)
def bindT (t : Tg) (d : PyData) (s : Stt) : Option Stt :=
  match t with
  | .n i => putS s i (.im d)
  | .t is => match d with
    | .tuple ds => if ds.length = is.length then (is.zip ds).foldlM (fun s p => putS s p.1 (.im p.2)) s else none
    | _ => none
/-- a block's own slots: they hold no list of their own when it begins; they are empty in it -/
def freeS (s : Stt) (vs : List Nat) : Bool := vs.all fun v => match s[v]? with
  | some (.ow _) | some (.lk _) => false
  | _ => true
def wipeS (s : Stt) : List Nat → Stt
  | [] => s
  | v :: vs => (wipeS s vs).set v .no
/-- .. and hold behind it what they held -/
def backS (s s' : Stt) : List Nat → Stt
  | [] => s'
  | v :: vs => (backS s s' vs).set v (s[v]?.getD .no)

structure Fn where
  io : Bool
  fr : Bool
  sem : List PyData → Option (PyData × PyData)

def isIm (r : Rs) : Bool := match r.k with
  | .bo _ => false
  | _ => true
def isKey : PyData → Bool
  | .int _ | .str _ => true
  | _ => false
def unlockL : List Rs → Stt → Stt → Stt
  | [], _, s' => s'
  | r :: rs, s, s' => unlockR r s (unlockL rs (lockR r s) s')
def tgIx : Tg → List Nat
  | .n i => [i]
  | .t is => is
/-- the loop of a comprehension -/
def compGo (turn : PyData → List PyData → Stt → Option (List PyData × Stt)) : List PyData → List PyData → Stt → Option (List PyData × Stt)
  | [], acc, s => some (acc, s)
  | d :: ds, acc, s => match turn d acc s with
    | some (acc', s') => compGo turn ds acc' s'
    | none => none

section
variable (F : Nat → Fn) (C : Nat → PyData)
mutual
def eval : Ex → Stt → Option (Rs × Stt)
  | .nm i, s => match s[i]? with
    | some (.im d) => some (⟨.im, d⟩, s)
    | some (.ow d) | some (.lk d) => some (⟨.bo i, d⟩, s)
    | _ => none
  | .mv i, s => match s[i]? with
    | some (.im d) => some (⟨.im, d⟩, s)
    | some (.ow d) => if i = 0 then none else some (⟨.im, d⟩, s.set i (.im d))
    | _ => none
  | .cs d, s => some (⟨.im, d⟩, s)
  | .gl g, s => some (⟨.im, C g⟩, s)
  | .bin o a b, s => match eval a s with
    | some (ra, s1) => match eval b (lockR ra s1) with
      | some (rb, s2) => (binD o ra.d rb.d).map fun r => (r, unlockR ra s1 s2)
      | none => none
    | none => none
  | .cmp o a b, s => match eval a s with
    | some (ra, s1) => match eval b (lockR ra s1) with
      | some (rb, s2) => (cmpD o ra.d rb.d).map fun r => (⟨.im, .bool r⟩, unlockR ra s1 s2)
      | none => none
    | none => none
  | .chn o1 o2 a b c, s => match eval a s with
    | some (ra, s1) => match eval b s1 with
      | some (rb, s2) => if isIm ra && isIm rb then (match cmpD o1 ra.d rb.d with
        | some true => match eval c s2 with
          | some (rc, s3) => (cmpD o2 rb.d rc.d).map fun r => (⟨.im, .bool r⟩, s3)
          | none => none
        | some false => some (⟨.im, .bool false⟩, s2)
        | none => none) else none
      | none => none
    | none => none
  | .and a b, s => match eval a s with
    | some (⟨_, .bool true⟩, s1) => match eval b s1 with
      | some (⟨_, .bool r⟩, s2) => some (⟨.im, .bool r⟩, s2)
      | _ => none
    | some (⟨_, .bool false⟩, s1) => some (⟨.im, .bool false⟩, s1)
    | _ => none
  | .or a b, s => match eval a s with
    | some (⟨_, .bool true⟩, s1) => some (⟨.im, .bool true⟩, s1)
    | some (⟨_, .bool false⟩, s1) => match eval b s1 with
      | some (⟨_, .bool r⟩, s2) => some (⟨.im, .bool r⟩, s2)
      | _ => none
    | _ => none
  | .not a, s => match eval a s with
    | some (⟨_, .bool r⟩, s1) => some (⟨.im, .bool (!r)⟩, s1)
    | _ => none
  | .ife c a b, s => match eval c s with
    | some (⟨_, .bool true⟩, s1) => eval a s1
    | some (⟨_, .bool false⟩, s1) => eval b s1
    | _ => none
  | .tup es, s => match evalL es s with
    | some (rs, s1) => if rs.all isIm && decide (rs.length ≤ sizeLine) then some (⟨.im, .tuple (rs.map (·.d))⟩, s1) else none
    | none => none
  | .lst es, s => match evalL es s with
    | some (rs, s1) => if rs.all isIm && decide (rs.length ≤ sizeLine) then some (⟨.fr, .list (rs.map (·.d))⟩, s1) else none
    | none => none
  | .dic _ es, s => match evalL es s with
    | some ([], s1) => some (⟨.fr, .dict []⟩, s1)
    | some ([rk, rv], s1) => if isIm rk && isIm rv && isKey rk.d then some (⟨.fr, .dict [(rk.d, rv.d)]⟩, s1) else none
    | _ => none
  | .sub a b, s => match eval a s with
    | some (ra, s1) => match eval b (lockR ra s1) with
      | some (rb, s2) => (subD ra.d rb.d).map fun d => (⟨.im, d⟩, unlockR ra s1 s2)
      | none => none
    | none => none
  | .slc a lo hi, s => match eval a s with
    | some (ra, s1) => match evalL lo (lockR ra s1) with
      | some (rl, s2) => match evalL hi s2 with
        | some (rh, s3) => match optI rl, optI rh with
          | some l, some h => (slcD ra.d l h).map fun r => (r, unlockR ra s1 s3)
          | _, _ => none
        | none => none
      | none => none
    | none => none
  | .rev a, s => match eval a s with
    | some (ra, s1) => (revD ra.d).map fun r => (r, s1)
    | none => none
  | .call f es, s => match evalL es s with
    | some (rs, s1) => if (F f).io || (F f).fr then none else match (F f).sem (rs.map (·.d)) with
      | some (d, _) => if rs.all isIm || flat d then some (⟨.im, d⟩, s1) else none
      | none => none
    | none => none
  | .calli f i es, s => match s[i]? with
    | some (.ow _) => (match evalL es s with
      | some (rs, s1) => match s1[i]? with
        | some (.ow p) => if (F f).io && !(F f).fr && rs.all isIm then (match (F f).sem (p :: rs.map (·.d)) with
          | some (d, p') => some (⟨.im, d⟩, s1.set i (.ow p'))
          | none => none) else none
        | _ => none
      | none => none)
    | _ => none
  | .b1 b a, s => match eval a s with
    | some (ra, s1) => (b1D b ra.d).map fun r => (r, s1)
    | none => none
  | .b2 b a c, s => match eval a s with
    | some (ra, s1) => match eval c (lockR ra s1) with
      | some (rb, s2) => (b2D b ra.d rb.d).map fun r => (r, unlockR ra s1 s2)
      | none => none
    | none => none
  | .isi a t, s => match eval a s with
    | some (ra, s1) => some (⟨.im, .bool (isiD ra.d t)⟩, s1)
    | none => none
  | .mt m a b, s => match eval a s with
    | some (ra, s1) => match eval b (lockR ra s1) with
      | some (rb, s2) => (mtD m ra.d rb.d).map fun r => (r, unlockR ra s1 s2)
      | none => none
    | none => none
  | .comp e tg k its cs own, s => match evalL its s with
    | some (rs, s1) => match itD k rs with
      | some ds => if freeS s1 (own.map (·.2)) then
          (match compGo (fun d acc t => match bindT tg d t with
            | some t1 => match evalC cs t1 with
              | some (true, t2) => match eval e t2 with
                | some (r, t3) => if isIm r && decide (acc.length < sizeLine) && freeS t3 (own.map (·.2)) then some (acc ++ [r.d], wipeS t3 (own.map (·.2))) else none
                | none => none
              | some (false, t2) => if freeS t2 (own.map (·.2)) then some (acc, wipeS t2 (own.map (·.2))) else none
              | none => none
            | none => none) ds [] (wipeS (lockL rs s1) (own.map (·.2))) with
          | some (acc, s2) => some (⟨.fr, .list acc⟩, backS s1 (unlockL rs s1 s2) (own.map (·.2)))
          | none => none) else none
      | none => none
    | none => none
  | .comp2 e tg k its tg1 k1 its1 cs own, s => match evalL its s with
    | some (rs, s1) => match itD k rs with
      | some ds => if freeS s1 (own.map (·.2)) then
          (match compGo (fun d acc t => match bindT tg d t with
            | some t1 => match evalL its1 t1 with
              | some (rs1, t2) => match itD k1 rs1 with
                | some ds1 => if freeS t2 (tgIx tg1) && rs1.all isIm then
                    (match compGo (fun d acc t => match bindT tg1 d t with
                      | some t1 => match evalC cs t1 with
                        | some (true, t2) => match eval e t2 with
                          | some (r, t3) => if isIm r && decide (acc.length < sizeLine) && freeS t3 (tgIx tg1) then some (acc ++ [r.d], wipeS t3 (tgIx tg1)) else none
                          | none => none
                        | some (false, t2) => if freeS t2 (tgIx tg1) then some (acc, wipeS t2 (tgIx tg1)) else none
                        | none => none
                      | none => none) ds1 acc (wipeS t2 (tgIx tg1)) with
                    | some (acc, t3) => if freeS t3 (own.map (·.2)) then some (acc, wipeS t3 (own.map (·.2))) else none
                    | none => none) else none
                | none => none
              | none => none
            | none => none) ds [] (wipeS (lockL rs s1) (own.map (·.2))) with
          | some (acc, s2) => some (⟨.fr, .list acc⟩, backS s1 (unlockL rs s1 s2) (own.map (·.2)))
          | none => none) else none
      | none => none
    | none => none
/-- from the left; what is borrowed is locked until all are there -/
def evalL : List Ex → Stt → Option (List Rs × Stt)
  | [], s => some ([], s)
  | e :: es, s => match eval e s with
    | some (r, s1) => match evalL es (lockR r s1) with
      | some (rs, s2) => some (r :: rs, unlockR r s1 s2)
      | none => none
    | none => none
/-- all of the tests -/
def evalC : List Ex → Stt → Option (Bool × Stt)
  | [], s => some (true, s)
  | e :: es, s => match eval e s with
    | some (⟨_, .bool true⟩, s1) => evalC es s1
    | some (⟨_, .bool false⟩, s1) => some (false, s1)
    | _ => none
end
end
end Ev

/-! Ev2: how data stand in the heap, how slots stand in a frame, and what an expression leaves as it was. -/
namespace Ev
open PySem L2
open Classical in
/-- the heap without what is hidden -/
noncomputable def Hid (H : Hp) (P : Addr → Prop) : Hp := fun b => if P b then none else H b
theorem hid_some {H : Hp} {P : Addr → Prop} {b : Addr} {o : HO} : Hid H P b = some o ↔ ¬ P b ∧ H b = some o := by
  unfold Hid
  by_cases h : P b
  · rw [if_pos h]
    exact ⟨fun z => (by cases z), fun z => absurd h z.1⟩
  · rw [if_neg h]
    exact ⟨fun z => ⟨h, z⟩, fun z => z.2⟩
theorem hid_none : Hid H (fun _ => False) = H := by
  funext b
  unfold Hid
  rw [if_neg (fun h => h)]
theorem hid_le {H : Hp} {P : Addr → Prop} : Same (Hid H P) H := fun b o h => (hid_some.mp h).2
theorem hid_mono {H : Hp} {P P' : Addr → Prop} (h : ∀ b, P' b → P b) : Same (Hid H P) (Hid H P') := fun b o e => by
  obtain ⟨n, e⟩ := hid_some.mp e
  exact hid_some.mpr ⟨fun z => n (h b z), e⟩

def keyD : Key → PyData
  | .inl i => .int i
  | .inr x => .str x
mutual
def Rp (K : PySem.W.Frag) (H : Hp) : PyData → V → Prop
  | .none, v => v = .non
  | .bool b, v => v = .bl b
  | .int i, v => v = .int i
  | .str x, v => v = .str x
  | .list ds, v => ∃ a vs, v = .ref a ∧ SqL K H a vs ∧ RpL K H ds vs
  | .tuple ds, v => ∃ a vs, v = .ref a ∧ SqT K H a vs ∧ RpL K H ds vs
  | .dict kvs, v => ∃ a, v = .ref a ∧ ((∃ ks : List (Key × V), H a = some (.dK ks) ∧ RpK K H kvs ks) ∨ (∃ ks : List (List Key × V), H a = some (.dT ks) ∧ RpT K H kvs ks))
def RpL (K : PySem.W.Frag) (H : Hp) : List PyData → List V → Prop
  | [], vs => vs = []
  | d :: ds, vs => ∃ v r, vs = v :: r ∧ Rp K H d v ∧ RpL K H ds r
def RpK (K : PySem.W.Frag) (H : Hp) : List (PyData × PyData) → List (Key × V) → Prop
  | [], vs => vs = []
  | (k, d) :: ds, vs => ∃ q v r, vs = (q, v) :: r ∧ k = keyD q ∧ Rp K H d v ∧ RpK K H ds r
def RpT (K : PySem.W.Frag) (H : Hp) : List (PyData × PyData) → List (List Key × V) → Prop
  | [], vs => vs = []
  | (k, d) :: ds, vs => ∃ q v r, vs = (q, v) :: r ∧ k = .tuple (q.map keyD) ∧ Rp K H d v ∧ RpT K H ds r
end
section
variable {K : PySem.W.Frag} {H H' : Hp}
mutual
theorem Rp.mono (e : Same H H') : ∀ (d : PyData) (v : V), Rp K H d v → Rp K H' d v
  | .none, _, h => by simpa only [Rp] using h
  | .bool _, _, h => by simpa only [Rp] using h
  | .int _, _, h => by simpa only [Rp] using h
  | .str _, _, h => by simpa only [Rp] using h
  | .list ds, v, h => by
    simp only [Rp] at h ⊢
    obtain ⟨a, vs, e1, q, r⟩ := h
    exact ⟨a, vs, e1, e.seq q, RpL.mono e ds vs r⟩
  | .tuple ds, v, h => by
    simp only [Rp] at h ⊢
    obtain ⟨a, vs, e1, q, r⟩ := h
    refine ⟨a, vs, e1, ?_, RpL.mono e ds vs r⟩
    rcases q with (q | ⟨o, q⟩) | q
    · exact .inl (.inl (e _ _ q))
    · exact .inl (.inr ⟨o, e _ _ q⟩)
    · exact .inr q
  | .dict kvs, v, h => by
    simp only [Rp] at h ⊢
    obtain ⟨a, e1, h⟩ := h
    refine ⟨a, e1, ?_⟩
    rcases h with ⟨ks, q, r⟩ | ⟨ks, q, r⟩
    · exact .inl ⟨ks, e _ _ q, RpK.mono e kvs ks r⟩
    · exact .inr ⟨ks, e _ _ q, RpT.mono e kvs ks r⟩
theorem RpL.mono (e : Same H H') : ∀ (ds : List PyData) (vs : List V), RpL K H ds vs → RpL K H' ds vs
  | [], _, h => by simpa only [RpL] using h
  | d :: ds, _, h => by
    simp only [RpL] at h ⊢
    obtain ⟨v, r, e1, h1, h2⟩ := h
    exact ⟨v, r, e1, Rp.mono e d v h1, RpL.mono e ds r h2⟩
theorem RpK.mono (e : Same H H') : ∀ (ds : List (PyData × PyData)) (vs : List (Key × V)), RpK K H ds vs → RpK K H' ds vs
  | [], _, h => by simpa only [RpK] using h
  | (k, d) :: ds, _, h => by
    simp only [RpK] at h ⊢
    obtain ⟨q, v, r, e1, e2, h1, h2⟩ := h
    exact ⟨q, v, r, e1, e2, Rp.mono e d v h1, RpK.mono e ds r h2⟩
theorem RpT.mono (e : Same H H') : ∀ (ds : List (PyData × PyData)) (vs : List (List Key × V)), RpT K H ds vs → RpT K H' ds vs
  | [], _, h => by simpa only [RpT] using h
  | (k, d) :: ds, _, h => by
    simp only [RpT] at h ⊢
    obtain ⟨q, v, r, e1, e2, h1, h2⟩ := h
    exact ⟨q, v, r, e1, e2, Rp.mono e d v h1, RpT.mono e ds r h2⟩
end
theorem RpL.len : ∀ {ds : List PyData} {vs : List V}, RpL K H ds vs → ds.length = vs.length
  | [], _, h => by simp only [RpL] at h; subst h; rfl
  | d :: ds, _, h => by
    simp only [RpL] at h
    obtain ⟨v, r, e1, _, h2⟩ := h
    subst e1
    simp only [List.length_cons, RpL.len h2]
theorem RpL.get : ∀ {ds : List PyData} {vs : List V} {i : Nat} {d : PyData}, RpL K H ds vs → ds[i]? = some d → ∃ v, vs[i]? = some v ∧ Rp K H d v
  | [], _, _, _, _, e => by simp at e
  | d :: ds, _, 0, _, h, e => by
    simp only [RpL] at h
    obtain ⟨v, r, e1, h1, _⟩ := h
    subst e1
    simp only [List.getElem?_cons_zero, Option.some.injEq] at e
    subst e
    exact ⟨v, rfl, h1⟩
  | d :: ds, _, i + 1, _, h, e => by
    simp only [RpL] at h
    obtain ⟨v, r, e1, _, h2⟩ := h
    subst e1
    rw [List.getElem?_cons_succ] at e
    obtain ⟨u, q1, q2⟩ := RpL.get h2 e
    exact ⟨u, by rw [List.getElem?_cons_succ]; exact q1, q2⟩
theorem RpL.get' {ds : List PyData} {vs : List V} {i : Nat} {v : V} (h : RpL K H ds vs) (e : vs[i]? = some v) : ∃ d, ds[i]? = some d ∧ Rp K H d v := by
  have hl := h.len
  have hi : i < vs.length := (List.getElem?_eq_some_iff.mp e).1
  have hd : i < ds.length := by omega
  obtain ⟨u, q1, q2⟩ := h.get (List.getElem?_eq_getElem hd)
  rw [e] at q1
  cases q1
  exact ⟨_, List.getElem?_eq_getElem hd, q2⟩
theorem RpL.nil : RpL K H [] [] := by simp only [RpL]
theorem RpL.cons {d : PyData} {ds : List PyData} {v : V} {vs : List V} (h : Rp K H d v) (t : RpL K H ds vs) : RpL K H (d :: ds) (v :: vs) := by
  simp only [RpL]
  exact ⟨v, vs, rfl, h, t⟩
theorem RpL.append : ∀ {ds es : List PyData} {vs ws : List V}, RpL K H ds vs → RpL K H es ws → RpL K H (ds ++ es) (vs ++ ws)
  | [], _, _, _, h, t => by simp only [RpL] at h; subst h; exact t
  | d :: ds, _, _, _, h, t => by
    simp only [RpL] at h
    obtain ⟨v, r, e1, h1, h2⟩ := h
    subst e1
    exact .cons h1 (RpL.append h2 t)
theorem RpL.take : ∀ {ds : List PyData} {vs : List V} (n : Nat), RpL K H ds vs → RpL K H (ds.take n) (vs.take n)
  | _, _, 0, _ => by simp only [List.take_zero]; exact .nil
  | [], _, n + 1, h => by simp only [RpL] at h; subst h; exact .nil
  | d :: ds, _, n + 1, h => by
    simp only [RpL] at h
    obtain ⟨v, r, e1, h1, h2⟩ := h
    subst e1
    exact .cons h1 (RpL.take n h2)
theorem RpL.drop : ∀ {ds : List PyData} {vs : List V} (n : Nat), RpL K H ds vs → RpL K H (ds.drop n) (vs.drop n)
  | _, _, 0, h => h
  | [], _, n + 1, h => by simp only [RpL] at h; subst h; exact .nil
  | d :: ds, _, n + 1, h => by
    simp only [RpL] at h
    obtain ⟨v, r, e1, _, h2⟩ := h
    subst e1
    exact RpL.drop n h2
theorem RpL.rev : ∀ {ds : List PyData} {vs : List V}, RpL K H ds vs → RpL K H ds.reverse vs.reverse
  | [], _, h => by simp only [RpL] at h; subst h; exact .nil
  | d :: ds, _, h => by
    simp only [RpL] at h
    obtain ⟨v, r, e1, h1, h2⟩ := h
    subst e1
    rw [List.reverse_cons, List.reverse_cons]
    exact RpL.append (RpL.rev h2) (.cons h1 .nil)
theorem RpL.set : ∀ {ds : List PyData} {vs : List V} {d : PyData} {v : V} (i : Nat), Rp K H d v → RpL K H ds vs → RpL K H (ds.set i d) (vs.set i v)
  | [], _, _, _, _, _, h => by simp only [RpL] at h; subst h; exact .nil
  | d :: ds, _, _, _, 0, q, h => by
    simp only [RpL] at h
    obtain ⟨v, r, e1, _, h2⟩ := h
    subst e1
    exact .cons q h2
  | d :: ds, _, _, _, i + 1, q, h => by
    simp only [RpL] at h
    obtain ⟨v, r, e1, h1, h2⟩ := h
    subst e1
    exact .cons h1 (RpL.set i q h2)
mutual
theorem Rp.dp : ∀ (d : PyData) (v : V), d.plain = true → Rp K H d v → Dp K H v d
  | .none, _, _, h => by simp only [Rp] at h; subst h; exact .non
  | .bool _, _, _, h => by simp only [Rp] at h; subst h; exact .bl _
  | .int _, _, _, h => by simp only [Rp] at h; subst h; exact .int _
  | .str _, _, _, h => by simp only [Rp] at h; subst h; exact .str _
  | .list ds, v, p, h => by
    simp only [Rp] at h
    obtain ⟨a, vs, e1, q, r⟩ := h
    subst e1
    exact .lst q (RpL.dp ds vs (by simpa only [PyData.plain] using p) r)
  | .tuple ds, v, p, h => by
    simp only [Rp] at h
    obtain ⟨a, vs, e1, q, r⟩ := h
    subst e1
    exact .tup q (RpL.dp ds vs (by simpa only [PyData.plain] using p) r)
  | .dict _, _, p, _ => by simp [PyData.plain] at p
theorem RpL.dp : ∀ (ds : List PyData) (vs : List V), PyData.plainAll ds = true → RpL K H ds vs → DpAll K H vs ds
  | [], _, _, h => by simp only [RpL] at h; subst h; exact .nil
  | d :: ds, _, p, h => by
    simp only [RpL] at h
    obtain ⟨v, r, e1, h1, h2⟩ := h
    subst e1
    rw [PyData.plainAll, Bool.and_eq_true] at p
    exact .cons (Rp.dp d v p.1 h1) (RpL.dp ds r p.2 h2)
end

/-- a list or a dict -/
def LD : HO → Prop
  | .lst _ | .dK _ | .dT _ => True
  | _ => False
mutual
theorem Rp.flat {P : Addr → Prop} (hp : ∀ b, P b → ∃ o, H b = some o ∧ LD o) : ∀ (d : PyData) (v : V), flat d = true → Rp K H d v → Rp K (Hid H P) d v
  | .none, _, _, h => by simpa only [Rp] using h
  | .bool _, _, _, h => by simpa only [Rp] using h
  | .int _, _, _, h => by simpa only [Rp] using h
  | .str _, _, _, h => by simpa only [Rp] using h
  | .list ds, v, p, h => by simp [Ev.flat] at p
  | .tuple ds, v, p, h => by
    simp only [Rp] at h ⊢
    obtain ⟨a, vs, e1, q, r⟩ := h
    refine ⟨a, vs, e1, ?_, RpL.flat hp ds vs (by simpa only [Ev.flat] using p) r⟩
    rcases q with (q | ⟨o, q⟩) | q
    · refine .inl (.inl (hid_some.mpr ⟨fun z => ?_, q⟩))
      obtain ⟨o, e, l⟩ := hp a z
      rw [q] at e
      cases e
      exact l
    · refine .inl (.inr ⟨o, hid_some.mpr ⟨fun z => ?_, q⟩⟩)
      obtain ⟨o, e, l⟩ := hp a z
      rw [q] at e
      cases e
      exact l
    · exact .inr q
  | .dict _, _, p, _ => by simp [Ev.flat] at p
theorem RpL.flat {P : Addr → Prop} (hp : ∀ b, P b → ∃ o, H b = some o ∧ LD o) : ∀ (ds : List PyData) (vs : List V), flatL ds = true → RpL K H ds vs → RpL K (Hid H P) ds vs
  | [], _, _, h => by simpa only [RpL] using h
  | d :: ds, _, p, h => by
    simp only [RpL] at h ⊢
    obtain ⟨v, r, e1, h1, h2⟩ := h
    rw [flatL, Bool.and_eq_true] at p
    exact ⟨v, r, e1, Rp.flat hp d v p.1 h1, RpL.flat hp ds r p.2 h2⟩
end

/-- the list or dict at a holds d; what lies in it is seen in Hh -/
def Top (K : PySem.W.Frag) (H Hh : Hp) (d : PyData) (a : Addr) : Prop :=
  match d with
  | .list ds => ∃ vs, H a = some (.lst vs) ∧ RpL K Hh ds vs
  | .dict kvs => (∃ ks : List (Key × V), H a = some (.dK ks) ∧ RpK K Hh kvs ks) ∨ (∃ ks : List (List Key × V), H a = some (.dT ks) ∧ RpT K Hh kvs ks)
  | _ => False
theorem Top.ld {Hh : Hp} {d : PyData} {a : Addr} (h : Top K H Hh d a) : ∃ o, H a = some o ∧ LD o := by
  cases d with
  | list ds => obtain ⟨vs, e, _⟩ := h; exact ⟨_, e, trivial⟩
  | dict ds =>
    rcases h with ⟨ks, e, _⟩ | ⟨ks, e, _⟩
    · exact ⟨_, e, trivial⟩
    · exact ⟨_, e, trivial⟩
  | _ => exact h.elim
theorem Top.mono {Hh Hh' : Hp} {d : PyData} {a : Addr} (h : Top K H Hh d a) (e1 : ∀ o, H a = some o → H' a = some o) (e2 : Same Hh Hh') : Top K H' Hh' d a := by
  cases d with
  | list ds => obtain ⟨vs, e, r⟩ := h; exact ⟨vs, e1 _ e, RpL.mono e2 _ _ r⟩
  | dict ds =>
    rcases h with ⟨ks, e, r⟩ | ⟨ks, e, r⟩
    · exact .inl ⟨ks, e1 _ e, RpK.mono e2 _ _ r⟩
    · exact .inr ⟨ks, e1 _ e, RpT.mono e2 _ _ r⟩
  | _ => exact h.elim
/-- seen where it may be read -/
theorem Top.rp {Hh H2 : Hp} {d : PyData} {a : Addr} (h : Top K H Hh d a) (e1 : ∀ o, H a = some o → H2 a = some o) (e2 : Same Hh H2) : Rp K H2 d (.ref a) := by
  cases d with
  | list ds =>
    obtain ⟨vs, e, r⟩ := h
    simp only [Rp]
    exact ⟨a, vs, rfl, SqL.of (e1 _ e), RpL.mono e2 _ _ r⟩
  | dict ds =>
    simp only [Rp]
    refine ⟨a, rfl, ?_⟩
    rcases h with ⟨ks, e, r⟩ | ⟨ks, e, r⟩
    · exact .inl ⟨ks, e1 _ e, RpK.mono e2 _ _ r⟩
    · exact .inr ⟨ks, e1 _ e, RpT.mono e2 _ _ r⟩
  | _ => exact h.elim
end

/-- what is hidden from those who read for good: the slots' own lists, and B -/
def hd (Z : Nat → Option Addr) (B : Addr → Prop) (b : Addr) : Prop := (∃ i, Z i = some b) ∨ B b
structure Rel (K : PySem.W.Frag) (H : Hp) (σ : L2.St) (s : Stt) (Z : Nat → Option Addr) (B : Addr → Prop) : Prop where
  ls : s.length = σ.length
  inj : ∀ i j a, Z i = some a → Z j = some a → i = j
  nb : ∀ i a, Z i = some a → ¬ B a
  own : ∀ i a, Z i = some a → ∃ d, (s[i]? = some (.ow d) ∨ s[i]? = some (.lk d)) ∧ σ[i]? = some (some (.ref a)) ∧ Top K H (Hid H (hd Z B)) d a
  im : ∀ (i : Nat) d, s[i]? = some (.im d) → ∃ v, σ[i]? = some (some v) ∧ Rp K (Hid H (hd Z B)) d v
  has : ∀ (i : Nat) d, (s[i]? = some (.ow d) ∨ s[i]? = some (.lk d)) → ∃ a, Z i = some a
  bt : ∀ b, B b → ∃ o, H b = some o ∧ LD o
section
variable {K : PySem.W.Frag} {H H' H1 H2 : Hp} {σ : L2.St} {s s' s1 s2 : Stt} {Z Z' Z1 Z2 : Nat → Option Addr} {B : Addr → Prop}
theorem Rel.at (R : Rel K H σ s Z B) {i : Nat} {d : PyData} (h : s[i]? = some (.ow d) ∨ s[i]? = some (.lk d)) : ∃ a, Z i = some a ∧ σ[i]? = some (some (.ref a)) ∧ Top K H (Hid H (hd Z B)) d a := by
  obtain ⟨a, ha⟩ := R.has i d h
  obtain ⟨d', h', e, t⟩ := R.own i a ha
  have : d' = d := by
    rcases h with h | h <;> rcases h' with h' | h' <;> (rw [h] at h'; cases h') <;> rfl
  subst this
  exact ⟨a, ha, e, t⟩
theorem Rel.hide (R : Rel K H σ s Z B) : ∀ b, hd Z B b → ∃ o, H b = some o ∧ LD o := by
  rintro b (⟨i, h⟩ | h)
  · obtain ⟨d, _, _, t⟩ := R.own i b h
    exact t.ld
  · exact R.bt b h
/-- from (H, s, Z) to (H', s', Z') -/
structure Gr (K : PySem.W.Frag) (B : Addr → Prop) (σ' : L2.St) (H : Hp) (s : Stt) (Z : Nat → Option Addr) (H' : Hp) (s' : Stt) (Z' : Nat → Option Addr) : Prop where
  rel : Rel K H' σ' s' Z' B
  keep : ∀ b o, H b = some o → (∀ (i : Nat) d, s[i]? = some (.ow d) → Z i ≠ some b) → H' b = some o
  tr : ∀ b o, H b = some o → ∃ o', H' b = some o'
  new : ∀ i b, Z' i = some b → Z i = some b ∨ H b = none
  lck : ∀ (i : Nat) d, s[i]? = some (.lk d) → s'[i]? = some (.lk d) ∧ Z' i = Z i
  len : s'.length = s.length
  pin : ∀ a, Z 0 = some a → Z' 0 = some a
theorem Gr.refl (R : Rel K H σ s Z B) : Gr K B σ H s Z H s Z := ⟨R, fun _ _ h _ => h, fun b o h => ⟨o, h⟩, fun _ _ h => .inl h, fun _ _ h => ⟨h, rfl⟩, rfl, fun _ h => h⟩
/-- what is not hidden stays -/
theorem Gr.seen (g : Gr K B σ H s Z H' s' Z') : Same (Hid H (hd Z B)) (Hid H' (hd Z' B)) := fun b o e => by
  obtain ⟨n, e⟩ := hid_some.mp e
  refine hid_some.mpr ⟨?_, g.keep b o e fun i d _ h => n (.inl ⟨i, h⟩)⟩
  rintro (⟨i, h⟩ | h)
  · rcases g.new i b h with h | h
    · exact n (.inl ⟨i, h⟩)
    · rw [h] at e; cases e
  · exact n (.inr h)
theorem Gr.trans {σ1 : L2.St} (R : Rel K H σ s Z B) (g : Gr K B σ1 H s Z H1 s1 Z1) (g' : Gr K B σ' H1 s1 Z1 H2 s2 Z2) : Gr K B σ' H s Z H2 s2 Z2 where
  rel := g'.rel
  keep := fun b o e n => by
    refine g'.keep b o (g.keep b o e n) fun i d hs hz => ?_
    rcases g.new i b hz with h | h
    · obtain ⟨d', q, _, _⟩ := R.own i b h
      rcases q with q | q
      · exact n i d' q h
      · have := (g.lck i d' q).1
        rw [hs] at this
        cases this
    · rw [h] at e; cases e
  tr := fun b o e => by
    obtain ⟨o1, e1⟩ := g.tr b o e
    exact g'.tr b o1 e1
  new := fun i b h => by
    rcases g'.new i b h with h | h
    · exact g.new i b h
    · refine .inr ?_
      cases q : H b with
      | none => rfl
      | some o =>
        obtain ⟨o', e'⟩ := g.tr b o q
        rw [h] at e'
        cases e'
  lck := fun i d h => by
    obtain ⟨h1, h2⟩ := g.lck i d h
    obtain ⟨h3, h4⟩ := g'.lck i d h1
    exact ⟨h3, h4.trans h2⟩
  len := g'.len.trans g.len
  pin := fun a h => g'.pin a (g.pin a h)

/-- a result -/
def ROk (K : PySem.W.Frag) (H0 H : Hp) (Z : Nat → Option Addr) (B : Addr → Prop) (r : Rs) (v : V) : Prop :=
  match r.k with
  | .im => Rp K (Hid H (hd Z B)) r.d v
  | .fr => ∃ a, v = .ref a ∧ (∀ i, Z i ≠ some a) ∧ ¬ B a ∧ H0 a = none ∧ Top K H (Hid H (fun b => b = a ∨ hd Z B b)) r.d a
  | .bo i => ∃ a, v = .ref a ∧ Z i = some a ∧ Top K H (Hid H (hd Z B)) r.d a
/-- it may be read now -/
theorem ROk.rp {H0 : Hp} {r : Rs} {v : V} (h : ROk K H0 H Z B r v) : Rp K H r.d v := by
  obtain ⟨k, d⟩ := r
  cases k with
  | im => exact Rp.mono hid_le _ _ h
  | fr =>
    obtain ⟨a, e, _, _, _, t⟩ := h
    subst e
    exact t.rp (fun _ q => q) hid_le
  | bo i =>
    obtain ⟨a, e, _, t⟩ := h
    subst e
    exact t.rp (fun _ q => q) hid_le
/-- it may be kept for good -/
theorem ROk.im {H0 : Hp} {r : Rs} {v : V} (hi : isIm r = true) (h : ROk K H0 H Z B r v) : Rp K (Hid H (hd Z B)) r.d v := by
  obtain ⟨k, d⟩ := r
  cases k with
  | im => exact h
  | fr =>
    obtain ⟨a, e, z, b, _, t⟩ := h
    subst e
    refine t.rp (fun o q => hid_some.mpr ⟨?_, q⟩) (hid_mono fun b h => .inr h)
    rintro (⟨i, h⟩ | h)
    · exact z i h
    · exact b h
  | bo i => simp [isIm] at hi
theorem ROk.of_im {H0 : Hp} {d : PyData} {v : V} (h : Rp K (Hid H (hd Z B)) d v) : ROk K H0 H Z B ⟨.im, d⟩ v := h

theorem lockR_len (r : Rs) (s : Stt) : (lockR r s).length = s.length := by
  unfold lockR
  split
  · split
    · rw [List.length_set]
    · rfl
  · rfl
theorem lockR_get (r : Rs) (s : Stt) (i : Nat) : (lockR r s)[i]? = s[i]? ∨ ∃ d, r.k = .bo i ∧ s[i]? = some (.ow d) ∧ (lockR r s)[i]? = some (.lk d) := by
  unfold lockR
  split
  · rename_i j hk
    split
    · rename_i d hd
      by_cases hj : j = i
      · subst hj
        refine .inr ⟨d, hk, hd, ?_⟩
        rw [List.getElem?_set_self (List.getElem?_eq_some_iff.mp hd).1]
      · exact .inl (List.getElem?_set_ne hj)
    · exact .inl rfl
  · exact .inl rfl
/-- locked, the slots stand as before -/
theorem Rel.lock (R : Rel K H σ s Z B) (r : Rs) : Rel K H σ (lockR r s) Z B where
  ls := by rw [lockR_len]; exact R.ls
  inj := R.inj
  nb := R.nb
  own := fun i a h => by
    obtain ⟨d, q, e, t⟩ := R.own i a h
    refine ⟨d, ?_, e, t⟩
    rcases lockR_get r s i with z | ⟨d', _, h1, h2⟩
    · rw [z]; exact q
    · rw [h1] at q
      rcases q with q | q
      · cases q; exact .inr h2
      · cases q
  im := fun i d h => by
    rcases lockR_get r s i with z | ⟨d', _, h1, h2⟩
    · rw [z] at h; exact R.im i d h
    · rw [h2] at h; cases h
  has := fun i d h => by
    rcases lockR_get r s i with z | ⟨d', _, h1, h2⟩
    · rw [z] at h; exact R.has i d h
    · exact R.has i d' (.inl h1)
  bt := R.bt
theorem unlockR_eq (r : Rs) (s s' : Stt) : unlockR r s s' = s' ∨ ∃ i d, r.k = .bo i ∧ s[i]? = some (.ow d) ∧ unlockR r s s' = s'.set i (.ow d) := by
  unfold unlockR
  split
  · rename_i j hk
    split
    · rename_i d hd
      exact .inr ⟨j, d, hk, hd, rfl⟩
    · exact .inl rfl
  · exact .inl rfl
/-- what was done while it was locked -/
theorem Gr.unlock (r : Rs) (g : Gr K B σ H (lockR r s) Z H' s' Z') : Gr K B σ H s Z H' (unlockR r s s') Z' := by
  rcases unlockR_eq r s s' with h | ⟨i, d, hk, hd, h⟩
  · -- nothing was locked
    have hl : lockR r s = s := by
      unfold lockR
      split
      · rename_i j hk
        split
        · rename_i d hd
          exfalso
          unfold unlockR at h
          rw [hk] at h
          simp only [hd] at h
          have hj : j < s'.length := by
            rw [g.len, lockR_len]
            exact (List.getElem?_eq_some_iff.mp hd).1
          have hlk : (lockR r s)[j]? = some (.lk d) := by
            unfold lockR
            rw [hk]
            simp only [hd]
            rw [List.getElem?_set_self (List.getElem?_eq_some_iff.mp hd).1]
          have h1 := (g.lck j d hlk).1
          rw [← h, List.getElem?_set_self hj] at h1
          cases h1
        · rfl
      · rfl
    rw [h]
    rw [hl] at g
    exact g
  · rw [h]
    have his : i < s.length := (List.getElem?_eq_some_iff.mp hd).1
    have hlk : (lockR r s)[i]? = some (.lk d) := by
      unfold lockR
      rw [hk]
      simp only [hd]
      rw [List.getElem?_set_self his]
    obtain ⟨l1, l2⟩ := g.lck i d hlk
    have hi' : i < s'.length := (List.getElem?_eq_some_iff.mp l1).1
    have get : ∀ j, j ≠ i → (s'.set i (Sl.ow d))[j]? = s'[j]? := fun j hj => List.getElem?_set_ne (Ne.symm hj)
    have getl : ∀ j, j ≠ i → (lockR r s)[j]? = s[j]? := fun j hj => by
      rcases lockR_get r s j with z | ⟨d', hk', _, _⟩
      · exact z
      · rw [hk] at hk'; cases hk'; exact absurd rfl hj
    have R := g.rel
    refine ⟨⟨by rw [List.length_set]; exact R.ls, R.inj, R.nb, fun j a hj => ?_, fun j d' hj => ?_, fun j d' hj => ?_, R.bt⟩, fun b o e n => ?_, g.tr, g.new, fun j d' hj => ?_, by rw [List.length_set, g.len, lockR_len], g.pin⟩
    · obtain ⟨d', q, e, t⟩ := R.own j a hj
      refine ⟨d', ?_, e, t⟩
      by_cases hji : j = i
      · subst hji
        rw [l1] at q
        rcases q with q | q
        · cases q
        · cases q
          exact .inl (List.getElem?_set_self hi')
      · rw [get j hji]; exact q
    · by_cases hji : j = i
      · subst hji
        rw [List.getElem?_set_self hi'] at hj
        cases hj
      · rw [get j hji] at hj; exact R.im j d' hj
    · by_cases hji : j = i
      · subst hji
        exact R.has j d (.inr l1)
      · rw [get j hji] at hj; exact R.has j d' hj
    · refine g.keep b o e fun j d' hj => ?_
      by_cases hji : j = i
      · subst hji
        rw [hlk] at hj; cases hj
      · rw [getl j hji] at hj
        exact n j d' hj
    · have hji : j ≠ i := fun z => by subst z; rw [hd] at hj; cases hj
      rw [get j hji]
      exact g.lck j d' (by rw [getl j hji]; exact hj)
/-- a result stays while it is locked -/
theorem ROk.stay {H0 : Hp} {r : Rs} {v : V} (h : ROk K H0 H Z B r v) (R : Rel K H σ s Z B) (g : Gr K B σ H (lockR r s) Z H' s' Z') : ROk K H0 H' Z' B r v := by
  have hsee : Same (Hid H (hd Z B)) (Hid H' (hd Z' B)) := g.seen
  obtain ⟨k, d⟩ := r
  cases k with
  | im => exact Rp.mono hsee _ _ h
  | fr =>
    obtain ⟨a, e, z, b, f, t⟩ := h
    obtain ⟨o, ho, _⟩ := id t.ld
    have hne : ∀ i, Z' i ≠ some a := fun i q => by
      rcases g.new i a q with q | q
      · exact z i q
      · rw [q] at ho; cases ho
    refine ⟨a, e, hne, b, f, t.mono (fun o q => g.keep a o q fun i d _ q => z i q) fun c o q => ?_⟩
    obtain ⟨n, q⟩ := hid_some.mp q
    have n1 : c ≠ a := fun z => n (.inl z)
    have n2 : ¬ hd Z B c := fun z => n (.inr z)
    obtain ⟨m, q'⟩ := hid_some.mp (hsee c o (hid_some.mpr ⟨n2, q⟩))
    exact hid_some.mpr ⟨fun z => z.elim n1 m, q'⟩
  | bo i =>
    obtain ⟨a, e, z, t⟩ := h
    obtain ⟨d', q, _, _⟩ := R.own i a z
    have hlk : ∃ d, (lockR ⟨.bo i, d⟩ s)[i]? = some (.lk d') := by
      refine ⟨d, ?_⟩
      rcases q with q | q
      · unfold lockR
        simp only [q]
        rw [List.getElem?_set_self (List.getElem?_eq_some_iff.mp q).1]
      · unfold lockR
        simp only [q]
    obtain ⟨d'', hlk⟩ := hlk
    have hlk : (lockR ⟨.bo i, d⟩ s)[i]? = some (.lk d') := hlk
    obtain ⟨_, l2⟩ := g.lck i d' hlk
    refine ⟨a, e, by rw [l2]; exact z, t.mono (fun o ho => g.keep a o ho fun j dj hj hz => ?_) hsee⟩
    have := R.inj i j a z hz
    subst this
    rw [hlk] at hj
    cases hj
/-- .. also where nothing needs a lock -/
theorem ROk.stay_im {H0 : Hp} {r : Rs} {v : V} (hi : isIm r = true) (h : ROk K H0 H Z B r v) (R : Rel K H σ s Z B) (g : Gr K B σ H s Z H' s' Z') : ROk K H0 H' Z' B r v := by
  refine h.stay R (s' := s') ?_
  have : lockR r s = s := by
    unfold lockR
    unfold isIm at hi
    split
    · rename_i i e
      rw [e] at hi
      cases hi
    · rfl
  rw [this]
  exact g
theorem ROk.older {H0 H00 : Hp} {r : Rs} {v : V} (h : ROk K H0 H Z B r v) (f : ∀ b, H0 b = none → H00 b = none) : ROk K H00 H Z B r v := by
  obtain ⟨k, d⟩ := r
  cases k with
  | im => exact h
  | fr =>
    obtain ⟨a, e, z, b, q, t⟩ := h
    exact ⟨a, e, z, b, f a q, t⟩
  | bo i => exact h
theorem Gr.old (g : Gr K B σ' H s Z H' s' Z') : ∀ b, H' b = none → H b = none := fun b e => by
  cases q : H b with
  | none => rfl
  | some o =>
    obtain ⟨o', e'⟩ := g.tr b o q
    rw [e] at e'
    cases e'
/-- a new object is laid -/
theorem Gr.lay (R : Rel K H σ s Z B) {p : Addr} {o : HO} (hp : H p = none) : Gr K B σ H s Z (upd H p o) s Z := by
  have ne : ∀ b u, H b = some u → b ≠ p := fun b u e => ne_of_none e hp
  have ns : Same H (upd H p o) := fun b u e => by rw [upd_ne (ne b u e)]; exact e
  have hs : Same (Hid H (hd Z B)) (Hid (upd H p o) (hd Z B)) := fun b u e => by
    obtain ⟨n, e⟩ := hid_some.mp e
    exact hid_some.mpr ⟨n, ns b u e⟩
  refine ⟨⟨R.ls, R.inj, R.nb, fun i a h => ?_, fun i d h => ?_, R.has, fun b h => ?_⟩, fun b u e _ => ns b u e, fun b u e => ⟨u, ns b u e⟩, fun _ _ h => .inl h, fun _ _ h => ⟨h, rfl⟩, rfl, fun _ h => h⟩
  · obtain ⟨d, q, e, t⟩ := R.own i a h
    exact ⟨d, q, e, t.mono (fun u q => ns a u q) hs⟩
  · obtain ⟨v, e, t⟩ := R.im i d h
    exact ⟨v, e, Rp.mono hs _ _ t⟩
  · obtain ⟨u, e, l⟩ := R.bt b h
    exact ⟨u, ns b u e, l⟩
theorem lay_fresh (R : Rel K H σ s Z B) {p : Addr} (hp : H p = none) : (∀ i, Z i ≠ some p) ∧ ¬ B p := by
  refine ⟨fun i h => ?_, fun h => ?_⟩
  · obtain ⟨o, e, _⟩ := R.hide p (.inl ⟨i, h⟩)
    rw [hp] at e; cases e
  · obtain ⟨o, e, _⟩ := R.bt p h
    rw [hp] at e; cases e
end
end Ev

/-! Ev3: rules by values for data; the reading of an expression of the small language; one lemma a construct. -/
namespace Ev
open PySem PySem.Spec PyProof.Rows L2
section
variable {X : Cx}
/-! ### operators over data -/
theorem op_eqP (hu : X.A.units + 100 < cLine) : OpR X (compareOp .Eq) (fun x y H Q => ∃ d e, Dp X.K H x d ∧ Dp X.K H y e ∧ d.plain = true ∧ e.plain = true ∧ min d.depth e.depth ≤ 64 ∧ Q (.bl (PyData.eqv d e)) H) := by
  intro pins s σ H x y v u Q I rx ry h
  obtain ⟨d, e, h1, h2, p1, p2, hd, q⟩ := h
  obtain ⟨as, r1⟩ := Dp.reads I d x v h1 rx
  obtain ⟨bs, r2⟩ := Dp.reads I e y u h2 ry
  exact SeqAt.eq_plain r1 r2 p1 p2 (by omega) ⟨.bl _, H, I, rfl, q⟩
theorem op_neP (hu : X.A.units + 100 < cLine) : OpR X (compareOp .NotEq) (fun x y H Q => ∃ d e, Dp X.K H x d ∧ Dp X.K H y e ∧ d.plain = true ∧ e.plain = true ∧ min d.depth e.depth ≤ 64 ∧ Q (.bl (!PyData.eqv d e)) H) := by
  intro pins s σ H x y v u Q I rx ry h
  obtain ⟨d, e, h1, h2, p1, p2, hd, q⟩ := h
  obtain ⟨as, r1⟩ := Dp.reads I d x v h1 rx
  obtain ⟨bs, r2⟩ := Dp.reads I e y u h2 ry
  exact SeqAt.ne_plain r1 r2 p1 p2 (by omega) ⟨.bl _, H, I, rfl, q⟩
theorem op_inP (hu : X.A.units + 100 < cLine) : OpR X (compareOp .In) (fun x y H Q => ∃ d c ds, (c = .list ds ∨ c = .tuple ds) ∧ Dp X.K H x d ∧ Dp X.K H y c ∧ d.plain = true ∧ PyData.plainAll ds = true ∧ min (PyData.depthAll ds) d.depth ≤ 64 ∧ Q (.bl (ds.any fun z => PyData.eqv z d)) H) := by
  intro pins s σ H x y v u Q I rx ry h
  obtain ⟨d, c, ds, hc, h1, h2, p1, p2, hd, q⟩ := h
  obtain ⟨as, r1⟩ := Dp.reads I d x v h1 rx
  obtain ⟨bs, r2⟩ := Dp.reads I c y u h2 ry
  rcases hc with rfl | rfl
  · exact SeqAt.in_list_data r2 r1 p2 p1 (by omega) ⟨.bl _, H, I, rfl, q⟩
  · exact SeqAt.in_tuple_data r2 r1 p2 p1 (by omega) ⟨.bl _, H, I, rfl, q⟩
theorem op_notInP (hu : X.A.units + 100 < cLine) : OpR X (compareOp .NotIn) (fun x y H Q => ∃ d c ds, (c = .list ds ∨ c = .tuple ds) ∧ Dp X.K H x d ∧ Dp X.K H y c ∧ d.plain = true ∧ PyData.plainAll ds = true ∧ min (PyData.depthAll ds) d.depth ≤ 64 ∧ Q (.bl (!ds.any fun z => PyData.eqv z d)) H) := by
  intro pins s σ H x y v u Q I rx ry h
  obtain ⟨d, c, ds, hc, h1, h2, p1, p2, hd, q⟩ := h
  obtain ⟨as, r1⟩ := Dp.reads I d x v h1 rx
  obtain ⟨bs, r2⟩ := Dp.reads I c y u h2 ry
  rcases hc with rfl | rfl
  · exact SeqAt.notIn_list_data r2 r1 p2 p1 (by omega) ⟨.bl _, H, I, rfl, q⟩
  · exact SeqAt.notIn_tuple_data r2 r1 p2 p1 (by omega) ⟨.bl _, H, I, rfl, q⟩
theorem op_ltP (hu : X.A.units + 100 < cLine) : OpR X (compareOp .Lt) (fun x y H Q => ∃ d e, Dp X.K H x d ∧ Dp X.K H y e ∧ PySem.W.alike d e = true ∧ d ≠ .none ∧ min d.depth e.depth ≤ 64 ∧ Q (.bl (PySem.W.dataLt d e)) H) := by
  intro pins s σ H x y v u Q I rx ry h
  obtain ⟨d, e, h1, h2, p1, p2, hd, q⟩ := h
  obtain ⟨as, r1⟩ := Dp.reads I d x v h1 rx
  obtain ⟨bs, r2⟩ := Dp.reads I e y u h2 ry
  exact PySem.W.rcLt_alike d e X.A s v u as bs r1 r2 p1 p2 (by omega) X.prog X.w _ _ ⟨.bl _, H, I, rfl, q⟩
/-- list + list, whoever holds them -/
theorem op_addL : OpR X (binaryOp .Add) (fun x y H Q => ∃ a b xs ys, x = .ref a ∧ y = .ref b ∧ SqL X.K H a xs ∧ SqL X.K H b ys ∧ xs.length + ys.length ≤ sizeLine ∧ ∀ p, H p = none → Q (.ref p) (upd H p (.lst (xs ++ ys)))) := by
  intro pins s σ H x y v u Q I rx ry h
  obtain ⟨a, b, xs, ys, rfl, rfl, ha, hb, hz, q⟩ := h
  cases rx
  cases ry
  obtain ⟨its, r1, ⟨⟨c1, d1, t1, l1⟩, n1, e1, k1, f1, g1⟩, _⟩ := I.list ha
  obtain ⟨its2, r2, ⟨⟨c2, d2, t2, l2⟩, n2, e2, k2, f2, g2⟩, _⟩ := I.list hb
  simp only at k1 f1 g1 k2 f2 g2
  subst k1 f1 g1 k2 f2 g2
  have hl1 := r1.length
  have hl2 := r2.length
  refine concat_meets ⟨_, e1, rfl⟩ ⟨_, e2, rfl⟩ noFill_list_add seq_list_add PySem.F.slot_list_add PySem.F.entry_list_add (PySem.F.args_list_add_2 _ _)
    (list_addW a b its.toArray its2.toArray n1 n2 none none l1 l2 (by rw [List.size_toArray, List.size_toArray]; omega)) ⟨e1, e2, ?_⟩
  have ea : its.toArray ++ its2.toArray = (its ++ its2).toArray := by simp
  rw [ea]
  exact ⟨.ref s.heap.objs.size, _, I.laid (t' := s.toks) (o := .lst (xs ++ ys)) (fun b ob q => Heap.get?_push_of_some _ q) (Nat.le_refl _) ⟨by rw [List.length_append]; exact hz, its ++ its2, 0, r1.append r2, Heap.get?_push_size _ rfl⟩, rfl, q _ (I.hok.fresh (Nat.le_refl _))⟩
theorem PE.imp {e : Expr} {t t' : TE} (h : PE X e t) (k : ∀ σ H Q, t' σ H Q → t σ H Q) : PE X e t' := ⟨fun pins s σ H Q I q => h.run pins s σ H Q I (k σ H Q q)⟩
theorem PT.imp {e : Expr} {t t' : TT} (h : PT X e t) (k : ∀ σ H Q, t' σ H Q → t σ H Q) : PT X e t' := ⟨fun pins s σ H Q I q => h.run pins s σ H Q I (k σ H Q q)⟩
theorem PW.imp {e : Expr} {t t' : TT} (h : PW X e t) (k : ∀ σ H Q, t' σ H Q → t σ H Q) : PW X e t' := ⟨fun wh pins s σ H Q I q => h.run wh pins s σ H Q I (k σ H Q q)⟩
theorem PA.imp {e : List Expr} {t t' : TA} (h : PA X e t) (k : ∀ σ H Q, t' σ H Q → t σ H Q) : PA X e t' := ⟨fun pos pins s σ H Q I q => h.run pos pins s σ H Q I (k σ H Q q)⟩
end

/-! ### a def's promise -/
def spF (K : PySem.W.Frag) (n : Nat) (fn : Fn) : Sp := fun vs H Q _ => vs.length = n ∧ ∃ (B : Addr → Prop) (ds : List PyData) (d p' : PyData), (∀ b, B b → ∃ o, H b = some o ∧ LD o) ∧ fn.sem ds = some (d, p') ∧
  ((fn.io = false ∧ fn.fr = false ∧ RpL K (Hid H B) ds vs ∧ ∀ v H', Rp K (Hid H' B) d v → Same H H' → Q v H') ∨
   (fn.io = false ∧ fn.fr = true ∧ RpL K (Hid H B) ds vs ∧ ∀ a H', H a = none → Top K H' (Hid H' (fun b => b = a ∨ B b)) d a → Same H H' → Q (.ref a) H') ∨
   (fn.io = true ∧ fn.fr = false ∧ ∃ a us p ps, vs = .ref a :: us ∧ B a ∧ ds = p :: ps ∧ Top K H (Hid H B) p a ∧ RpL K (Hid H B) ps us ∧
      ∀ v H', Rp K (Hid H' B) d v → Top K H' (Hid H' B) p' a → (∀ b o, b ≠ a → H b = some o → H' b = some o) → (∀ o, H a = some o → ∃ o', H' a = some o') → Q v H'))
structure FnS (X : Cx) (x : Str) (n : Nat) (fn : Fn) : Prop where
  ex : ∃ (k : Nat) (fa : Addr) (fd : FuncData) (ps : List Str), FnOk X.prog X.w X.K X.mg X.base CX0 k fa fd ps (spF X.K n fn) ∧ Room k X.A ∧ X.mg x = some (.ref fa) ∧ PySem.W.keepIn X.K (.ref fa) = true ∧ Binds X.K fd ps []
structure Gm where
  N : List Str
  fn : List (Str × Nat)
  gl : List Str
/-- the built-in names that the small language knows -/
def bltns : List Str := ["len", "all", "any", "list", "tuple", "int", "sum", "min", "max", "range", "isinstance", "str", "bool", "sorted", "set"]
/-- where one stands -/
structure Wd (X : Cx) (G : Gm) (F : Nat → Fn) (C : Nat → PyData) : Prop where
  calm : X.calm = true
  nN : X.N = G.N
  nd : X.N.Nodup
  bn : ∀ x ∈ bltns, X.mg x = none
  gc : ∀ g x, G.gl[g]? = some x → ∃ u v, X.mg x = some u ∧ RelV v u ∧ ∀ H, Rp X.K H (C g) v
  fns : ∀ f x n, G.fn[f]? = some (x, n) → FnS X x n (F f)
  un : X.A.units + 100 < cLine

section
variable (F : Nat → Fn) (C : Nat → PyData)
def RsL (K : PySem.W.Frag) (H0 H : Hp) (Z : Nat → Option Addr) (B : Addr → Prop) : List Rs → List V → Prop
  | [], vs => vs = []
  | r :: rs, vs => ∃ v us, vs = v :: us ∧ ROk K H0 H Z B r v ∧ RsL K H0 H Z B rs us
/-- the reading -/
def tE (K : PySem.W.Frag) (ir : Ex) : TE := fun σ H Q => ∃ s Z B r s', Rel K H σ s Z B ∧ Ev.eval F C ir s = some (r, s') ∧ ∀ v H' Z', Gr K B σ H s Z H' s' Z' → ROk K H H' Z' B r v → Q v H'
def tEL (K : PySem.W.Frag) (irs : List Ex) : TA := fun σ H Q => ∃ s Z B rs s', Rel K H σ s Z B ∧ Ev.evalL F C irs s = some (rs, s') ∧ ∀ vs H' Z', Gr K B σ H s Z H' s' Z' → RsL K H H' Z' B rs vs → Q vs H'
/-- no star, no set display, no slice -/
def Fine : Expr → Prop
  | .Starred _ _ | .Set _ _ _ | .Slice _ _ _ _ => False
  | _ => True
structure Snd (X : Cx) (e : Expr) (ir : Ex) : Prop where
  pe : PE X e (tE F C X.K ir)
  pt : PT X e (tB (tE F C X.K ir))
  pw : ∀ op vs pos, e = .BoolOp op vs pos → PW X e (tB (tE F C X.K ir))
  fn : Fine e
end
theorem Fine.star {e : Expr} (h : Fine e) (es : List Expr) (env : PySem.Env) : starEach (e :: es) env = (false, PySem.eval e env) :: starEach es env := by
  cases e <;> first | rfl | exact h.elim
theorem Fine.behind {e : Expr} (h : Fine e) (op : CmpOp) : behindInMarks op e = false := by
  cases e <;> first | rfl | exact h.elim
theorem Fine.ix {e : Expr} (h : Fine e) : PlainIx e := by
  intro o i
  cases e <;> first | rfl | exact h.elim
theorem Fine.fold {e : Expr} (h : Fine e) (env : PySem.Env) (x : Value) : foldedSetIterable e env x = pure x := by
  cases e <;> first | rfl | exact h.elim
theorem unlockR_im {r : Rs} (hi : isIm r = true) (s s' : Stt) : unlockR r s s' = s' := by
  unfold unlockR
  unfold isIm at hi
  split
  · rename_i i e
    rw [e] at hi
    cases hi
  · rfl
theorem lockR_im {r : Rs} (hi : isIm r = true) (s : Stt) : lockR r s = s := by
  unfold lockR
  unfold isIm at hi
  split
  · rename_i i e
    rw [e] at hi
    cases hi
  · rfl
section
variable {F : Nat → Fn} {C : Nat → PyData} {X : Cx} {G : Gm} {K : PySem.W.Frag} {a b c : Expr} {ia ib ic : Ex} {σ : L2.St} {H : Hp} {Q : VK}
/-- two operands, from the left -/
theorem tE2 {ir : R2} {s s1 s2 : Stt} {Z : Nat → Option Addr} {B : Addr → Prop} {ra rb : Rs} (R : Rel K H σ s Z B) (ha : Ev.eval F C ia s = some (ra, s1)) (hb : Ev.eval F C ib (lockR ra s1) = some (rb, s2))
    (h : ∀ x y H2 Z2, Gr K B σ H s Z H2 (unlockR ra s1 s2) Z2 → ROk K H H2 Z2 B ra x → ROk K H H2 Z2 B rb y → ir x y H2 Q) : tOp ir (tE F C K ia) (tE F C K ib) σ H Q := by
  refine ⟨s, Z, B, ra, s1, R, ha, fun x H1 Z1 g1 o1 => ?_⟩
  refine ⟨_, Z1, B, rb, s2, g1.rel.lock ra, hb, fun y H2 Z2 g2 o2 => ?_⟩
  have R1 := g1.rel
  have g3 := Gr.unlock ra g2
  have o1' := o1.stay R1 g2
  exact h x y H2 Z2 (g1.trans R g3) o1' (o2.older g1.old)
theorem snd_val {e : Expr} {ir : Ex} (h : PE X e (tE F C X.K ir)) (ht : ∀ whole, isTrue e X.env whole = (do let v ← whole; standAt e.pos; holding [v] (truthy v))) (hb : ∀ op vs pos, e ≠ .BoolOp op vs pos) (hs : Fine e) : Snd F C X e ir :=
  ⟨h, pt_val h ht, fun op vs pos z => absurd z (hb op vs pos), hs⟩

/-! ### names, constants -/
theorem Gr.freeze {B : Addr → Prop} {s : Stt} {Z : Nat → Option Addr} {i : Nat} {d : PyData} (R : Rel K H σ s Z B) (h : s[i]? = some (.ow d)) (h0 : i ≠ 0) : ∃ a, σ[i]? = some (some (.ref a)) ∧ Gr K B σ H s Z H (s.set i (.im d)) (fun j => if j = i then none else Z j) ∧
    Rp K (Hid H (hd (fun j => if j = i then none else Z j) B)) d (.ref a) := by
  obtain ⟨a, hz, hσ, t⟩ := R.at (.inl h)
  have his : i < s.length := (List.getElem?_eq_some_iff.mp h).1
  have hle : ∀ b, hd (fun j => if j = i then none else Z j) B b → hd Z B b := by
    rintro b (⟨j, hj⟩ | hb)
    · dsimp only at hj
      by_cases e : j = i
      · rw [if_pos e] at hj; cases hj
      · rw [if_neg e] at hj; exact .inl ⟨j, hj⟩
    · exact .inr hb
  have hs := hid_mono (H := H) hle
  have na : ¬ hd (fun j => if j = i then none else Z j) B a := by
    rintro (⟨j, hj⟩ | hb)
    · dsimp only at hj
      by_cases e : j = i
      · rw [if_pos e] at hj; cases hj
      · rw [if_neg e] at hj; exact e (R.inj j i a hj hz)
    · exact R.nb i a hz hb
  have rp : Rp K (Hid H (hd (fun j => if j = i then none else Z j) B)) d (.ref a) := t.rp (fun o q => hid_some.mpr ⟨na, q⟩) hs
  have get : ∀ j, j ≠ i → (s.set i (Sl.im d))[j]? = s[j]? := fun j hj => List.getElem?_set_ne (Ne.symm hj)
  refine ⟨a, hσ, ⟨⟨by rw [List.length_set]; exact R.ls, fun j k b h1 h2 => ?_, fun j b h1 => ?_, fun j b h1 => ?_, fun j d' h1 => ?_, fun j d' h1 => ?_, R.bt⟩, fun _ _ e _ => e, fun b o e => ⟨o, e⟩, fun j b h1 => ?_, fun j d' h1 => ?_, List.length_set, fun b z => by show (if 0 = i then none else Z 0) = some b; rw [if_neg (Ne.symm h0)]; exact z⟩, rp⟩
  · by_cases e1 : j = i
    · rw [if_pos e1] at h1; cases h1
    · by_cases e2 : k = i
      · rw [if_pos e2] at h2; cases h2
      · rw [if_neg e1] at h1; rw [if_neg e2] at h2; exact R.inj j k b h1 h2
  · by_cases e1 : j = i
    · rw [if_pos e1] at h1; cases h1
    · rw [if_neg e1] at h1; exact R.nb j b h1
  · by_cases e1 : j = i
    · rw [if_pos e1] at h1; cases h1
    · rw [if_neg e1] at h1
      obtain ⟨d', q1, q2, q3⟩ := R.own j b h1
      exact ⟨d', by rw [get j e1]; exact q1, q2, q3.mono (fun _ q => q) hs⟩
  · by_cases e1 : j = i
    · subst e1
      rw [List.getElem?_set_self his] at h1
      cases h1
      exact ⟨_, hσ, rp⟩
    · rw [get j e1] at h1
      obtain ⟨v, q1, q2⟩ := R.im j d' h1
      exact ⟨v, q1, Rp.mono hs _ _ q2⟩
  · by_cases e1 : j = i
    · subst e1
      rw [List.getElem?_set_self his] at h1
      rcases h1 with h1 | h1 <;> cases h1
    · rw [get j e1] at h1
      obtain ⟨b, q⟩ := R.has j d' h1
      exact ⟨b, by show (if j = i then none else Z j) = some b; rw [if_neg e1]; exact q⟩
  · by_cases e1 : j = i
    · rw [if_pos e1] at h1; cases h1
    · rw [if_neg e1] at h1; exact .inl h1
  · have e1 : j ≠ i := fun z => by subst z; rw [h] at h1; cases h1
    exact ⟨by rw [get j e1]; exact h1, by show (if j = i then none else Z j) = Z j; rw [if_neg e1]⟩
theorem snd_nm {i : Nat} {x : Str} {pos : Pos} (hN : X.N[i]? = some x) (hv : Vis X.env.scope x) (hd : (x == ("__debug__" : Str)) = false) (hcd : (x == ("__classdict__" : Str)) = false) : Snd F C X (.Name x pos) (.nm i) := by
  refine snd_val (PE.imp (pe_var hN hv hd hcd) fun σ H Q h => ?_) (by intro _; rfl) (fun _ _ _ z => nomatch z) trivial
  obtain ⟨s, Z, B, r, s', R, e, k⟩ := h
  simp only [Ev.eval] at e
  cases q : s[i]? with
  | none => rw [q] at e; cases e
  | some x =>
    rw [q] at e
    cases x with
    | no => cases e
    | im d =>
      simp only [Option.some.injEq, Prod.mk.injEq] at e
      obtain ⟨rfl, rfl⟩ := e
      obtain ⟨v, h1, h2⟩ := R.im i d q
      exact ⟨v, h1, k v H Z (.refl R) h2⟩
    | ow d =>
      simp only [Option.some.injEq, Prod.mk.injEq] at e
      obtain ⟨rfl, rfl⟩ := e
      obtain ⟨a, h1, h2, h3⟩ := R.at (.inl q)
      exact ⟨_, h2, k _ H Z (.refl R) ⟨a, rfl, h1, h3⟩⟩
    | lk d =>
      simp only [Option.some.injEq, Prod.mk.injEq] at e
      obtain ⟨rfl, rfl⟩ := e
      obtain ⟨a, h1, h2, h3⟩ := R.at (.inr q)
      exact ⟨_, h2, k _ H Z (.refl R) ⟨a, rfl, h1, h3⟩⟩
theorem snd_mv {i : Nat} {x : Str} {pos : Pos} (hN : X.N[i]? = some x) (hv : Vis X.env.scope x) (hd : (x == ("__debug__" : Str)) = false) (hcd : (x == ("__classdict__" : Str)) = false) : Snd F C X (.Name x pos) (.mv i) := by
  refine snd_val (PE.imp (pe_var hN hv hd hcd) fun σ H Q h => ?_) (by intro _; rfl) (fun _ _ _ z => nomatch z) trivial
  obtain ⟨s, Z, B, r, s', R, e, k⟩ := h
  simp only [Ev.eval] at e
  cases q : s[i]? with
  | none => rw [q] at e; cases e
  | some x =>
    rw [q] at e
    cases x with
    | no => cases e
    | lk d => cases e
    | im d =>
      simp only [Option.some.injEq, Prod.mk.injEq] at e
      obtain ⟨rfl, rfl⟩ := e
      obtain ⟨v, h1, h2⟩ := R.im i d q
      exact ⟨v, h1, k v H Z (.refl R) h2⟩
    | ow d =>
      simp only at e
      split at e
      · cases e
      · rename_i h0
        simp only [Option.some.injEq, Prod.mk.injEq] at e
        obtain ⟨rfl, rfl⟩ := e
        obtain ⟨a, h1, h2, h3⟩ := Gr.freeze R q h0
        exact ⟨_, h1, k _ H _ h2 h3⟩
/-- a constant that is no object -/
theorem snd_cs {e : Expr} {d : PyData} {v : V} (h : PE X e (tC v)) (hr : ∀ H, Rp X.K H d v) (ht : ∀ whole, isTrue e X.env whole = (do let v ← whole; standAt e.pos; holding [v] (truthy v))) (hb : ∀ op vs pos, e ≠ .BoolOp op vs pos) (hs : Fine e) : Snd F C X e (.cs d) := by
  refine snd_val (PE.imp h fun σ H Q h => ?_) ht hb hs
  obtain ⟨s, Z, B, r, s', R, e, k⟩ := h
  simp only [Ev.eval, Option.some.injEq, Prod.mk.injEq] at e
  obtain ⟨rfl, rfl⟩ := e
  exact k v H Z (.refl R) (hr _)
theorem snd_gl (W : Wd X G F C) {g : Nat} {x : Str} {pos : Pos} (hg : G.gl[g]? = some x) (hG : Gl X x) (hd : (x == ("__debug__" : Str)) = false) : Snd F C X (.Name x pos) (.gl g) := by
  obtain ⟨u, v, hm, hr, hp⟩ := W.gc g x hg
  refine snd_val (PE.imp (pe_glob hG hm hr hd) fun σ H Q h => ?_) (by intro _; rfl) (fun _ _ _ z => nomatch z) trivial
  obtain ⟨s, Z, B, r, s', R, e, k⟩ := h
  simp only [Ev.eval, Option.some.injEq, Prod.mk.injEq] at e
  obtain ⟨rfl, rfl⟩ := e
  exact k v H Z (.refl R) (hp _)

/-! ### results by what they are -/
theorem rp_int {i : Int} {v : V} {H : Hp} (h : Rp K H (.int i) v) : v = .int i := by simpa only [Rp] using h
theorem rp_str {x : Str} {v : V} {H : Hp} (h : Rp K H (.str x) v) : v = .str x := by simpa only [Rp] using h
theorem rp_bl {x : Bool} {v : V} {H : Hp} (h : Rp K H (.bool x) v) : v = .bl x := by simpa only [Rp] using h
theorem rp_non {v : V} {H : Hp} (h : Rp K H .none v) : v = .non := by simpa only [Rp] using h
theorem rp_of_int {i : Int} {H : Hp} : Rp K H (.int i) (.int i) := by simp only [Rp]
theorem rp_of_str {i : Str} {H : Hp} : Rp K H (.str i) (.str i) := by simp only [Rp]
theorem rp_of_bl {i : Bool} {H : Hp} : Rp K H (.bool i) (.bl i) := by simp only [Rp]
theorem rp_of_non {H : Hp} : Rp K H .none .non := by simp only [Rp]
/-- a list that came: its items may be kept -/
theorem ROk.list {H0 : Hp} {Z : Nat → Option Addr} {B : Addr → Prop} {r : Rs} {v : V} {ds : List PyData} (h : ROk K H0 H Z B r v) (e : r.d = .list ds) : ∃ a vs, v = .ref a ∧ SqL K H a vs ∧ RpL K (Hid H (Ev.hd Z B)) ds vs := by
  obtain ⟨k, d⟩ := r
  simp only at e
  subst e
  cases k with
  | im =>
    have h : Rp K (Hid H (Ev.hd Z B)) (.list ds) v := h
    simp only [Rp] at h
    obtain ⟨a, vs, e1, q, t⟩ := h
    exact ⟨a, vs, e1, Same.seq hid_le q, t⟩
  | fr =>
    obtain ⟨a, e1, _, _, _, vs, q, t⟩ := h
    exact ⟨a, vs, e1, SqL.of q, RpL.mono (hid_mono fun b z => .inr z) _ _ t⟩
  | bo i =>
    obtain ⟨a, e1, _, vs, q, t⟩ := h
    exact ⟨a, vs, e1, SqL.of q, t⟩
theorem ROk.tuple {H0 : Hp} {Z : Nat → Option Addr} {B : Addr → Prop} {r : Rs} {v : V} {ds : List PyData} (h : ROk K H0 H Z B r v) (e : r.d = .tuple ds) : ∃ a vs, v = .ref a ∧ SqT K H a vs ∧ RpL K (Hid H (Ev.hd Z B)) ds vs := by
  obtain ⟨k, d⟩ := r
  simp only at e
  subst e
  cases k with
  | im =>
    have h : Rp K (Hid H (Ev.hd Z B)) (.tuple ds) v := h
    have h' : Rp K H (.tuple ds) v := Rp.mono hid_le _ _ h
    simp only [Rp] at h h'
    obtain ⟨a, vs, e1, q, t⟩ := h
    refine ⟨a, vs, e1, ?_, t⟩
    rcases q with (q | ⟨o, q⟩) | q
    · exact .inl (.inl (hid_le _ _ q))
    · exact .inl (.inr ⟨o, hid_le _ _ q⟩)
    · exact .inr q
  | fr =>
    obtain ⟨a, _, _, _, _, t⟩ := h
    exact t.elim
  | bo i =>
    obtain ⟨a, _, _, t⟩ := h
    exact t.elim
/-- a new list -/
theorem fresh_list {s : Stt} {H0 : Hp} {Z : Nat → Option Addr} {B : Addr → Prop} {ds : List PyData} {vs : List V} {p : Addr} (R : Rel K H σ s Z B) (hp : H p = none) (h0 : H0 p = none) (t : RpL K (Hid H (Ev.hd Z B)) ds vs) : ROk K H0 (upd H p (.lst vs)) Z B ⟨.fr, .list ds⟩ (.ref p) := by
  obtain ⟨n1, n2⟩ := lay_fresh R hp
  refine ⟨p, rfl, n1, n2, h0, vs, upd_same, RpL.mono (fun b o e => ?_) _ _ t⟩
  obtain ⟨n, e⟩ := hid_some.mp e
  have hb := ne_of_none e hp
  exact hid_some.mpr ⟨fun z => z.elim hb n, by rw [upd_ne hb]; exact e⟩
theorem fresh_tuple {s : Stt} {H0 : Hp} {Z : Nat → Option Addr} {B : Addr → Prop} {ds : List PyData} {vs : List V} {p : Addr} (R : Rel K H σ s Z B) (hp : H p = none) (t : RpL K (Hid H (Ev.hd Z B)) ds vs) : ROk K H0 (upd H p (.tup vs)) Z B ⟨.im, .tuple ds⟩ (.ref p) := by
  obtain ⟨n1, n2⟩ := lay_fresh R hp
  show Rp K _ (.tuple ds) _
  simp only [Rp]
  refine ⟨p, vs, rfl, SqT.of (hid_some.mpr ⟨?_, upd_same⟩), RpL.mono (fun b o e => ?_) _ _ t⟩
  · rintro (⟨i, z⟩ | z)
    · exact n1 i z
    · exact n2 z
  · obtain ⟨n, e⟩ := hid_some.mp e
    exact hid_some.mpr ⟨n, by rw [upd_ne (ne_of_none e hp)]; exact e⟩

/-! ### binary operators -/
def boOp : Bo → Operator
  | .add => .Add | .sub => .Sub | .mul => .Mult | .fdiv => .FloorDiv | .mod => .Mod
theorem snd_bin {o : Bo} {pos : Pos} (ha : Snd F C X a ia) (hb : Snd F C X b ib) : Snd F C X (.BinOp a (boOp o) b pos) (.bin o ia ib) := by
  refine snd_val ⟨fun pins s0 σ H Q I h => ?_⟩ (by intro _; rfl) (fun _ _ _ z => nomatch z) trivial
  obtain ⟨s, Z, B, r, s', R, e, k⟩ := h
  simp only [Ev.eval] at e
  cases ea : Ev.eval F C ia s with
  | none => rw [ea] at e; cases e
  | some pa =>
    obtain ⟨ra, s1⟩ := pa
    rw [ea] at e
    simp only at e
    cases eb : Ev.eval F C ib (lockR ra s1) with
    | none => rw [eb] at e; cases e
    | some pb =>
      obtain ⟨rb, s2⟩ := pb
      rw [eb] at e
      simp only [Option.map_eq_some_iff] at e
      obtain ⟨r0, e0, e⟩ := e
      cases e
      have go : ∀ {ir : R2}, OpR X (binaryOp (boOp o)) ir → (∀ x y H2 Z2, Gr X.K B σ H s Z H2 (unlockR ra s1 s2) Z2 → ROk X.K H H2 Z2 B ra x → ROk X.K H H2 Z2 B rb y → ir x y H2 Q) →
          wpAny (model X.prog X.w) X.A (PySem.eval (.BinOp a (boOp o) b pos) X.env) (EP X pins σ Q) X.xe s0 := fun {ir} ho q =>
        (pe_op ho ha.pe hb.pe).run pins s0 σ H Q I (tE2 R ea eb q)
      cases hda : ra.d with
      | int i =>
        cases hdb : rb.d with
        | int j =>
          rw [hda, hdb] at e0
          cases o with
          | add =>
            cases e0
            refine go op_add fun x y H2 Z2 g o1 o2 => ?_
            have h1 := o1.rp; have h2 := o2.rp
            rw [hda] at h1; rw [hdb] at h2
            exact ⟨i, j, rp_int h1, rp_int h2, k _ H2 Z2 g (ROk.of_im rp_of_int)⟩
          | sub =>
            cases e0
            refine go op_sub fun x y H2 Z2 g o1 o2 => ?_
            have h1 := o1.rp; have h2 := o2.rp
            rw [hda] at h1; rw [hdb] at h2
            exact ⟨i, j, rp_int h1, rp_int h2, k _ H2 Z2 g (ROk.of_im rp_of_int)⟩
          | mul =>
            simp only [binD] at e0
            split at e0
            · rename_i hm
              cases e0
              refine go op_mul fun x y H2 Z2 g o1 o2 => ?_
              have h1 := o1.rp; have h2 := o2.rp
              rw [hda] at h1; rw [hdb] at h2
              exact ⟨i, j, rp_int h1, rp_int h2, hm, k _ H2 Z2 g (ROk.of_im rp_of_int)⟩
            · cases e0
          | fdiv =>
            simp only [binD] at e0
            split at e0
            · rename_i hm
              cases e0
              refine go op_fdiv fun x y H2 Z2 g o1 o2 => ?_
              have h1 := o1.rp; have h2 := o2.rp
              rw [hda] at h1; rw [hdb] at h2
              exact ⟨i, j, rp_int h1, rp_int h2, hm, k _ H2 Z2 g (ROk.of_im rp_of_int)⟩
            · cases e0
          | mod =>
            simp only [binD] at e0
            split at e0
            · rename_i hm
              cases e0
              refine go op_mod fun x y H2 Z2 g o1 o2 => ?_
              have h1 := o1.rp; have h2 := o2.rp
              rw [hda] at h1; rw [hdb] at h2
              exact ⟨i, j, rp_int h1, rp_int h2, hm, k _ H2 Z2 g (ROk.of_im rp_of_int)⟩
            · cases e0
        | _ => rw [hda, hdb] at e0; cases o <;> cases e0
      | str z =>
        cases hdb : rb.d with
        | str y =>
          rw [hda, hdb] at e0
          cases o with
          | add =>
            simp only [binD, addD] at e0
            split at e0
            · rename_i hm
              cases e0
              refine go op_add_str fun x y H2 Z2 g o1 o2 => ?_
              have h1 := o1.rp; have h2 := o2.rp
              rw [hda] at h1; rw [hdb] at h2
              exact ⟨_, _, rp_str h1, rp_str h2, hm, k _ H2 Z2 g (ROk.of_im rp_of_str)⟩
            · cases e0
          | _ => cases e0
        | _ => rw [hda, hdb] at e0; cases o <;> cases e0
      | list xs =>
        cases hdb : rb.d with
        | list ys =>
          rw [hda, hdb] at e0
          cases o with
          | add =>
            simp only [binD, addD] at e0
            split at e0
            · rename_i hm
              cases e0
              refine go op_addL fun x y H2 Z2 g o1 o2 => ?_
              obtain ⟨a1, vs, e1, q1, t1⟩ := o1.list hda
              obtain ⟨a2, ws, e2, q2, t2⟩ := o2.list hdb
              refine ⟨a1, a2, vs, ws, e1, e2, q1, q2, by rw [← t1.len, ← t2.len]; exact hm, fun p hp => ?_⟩
              exact k _ _ Z2 (g.trans R (Gr.lay g.rel hp)) (fresh_list g.rel hp (g.old p hp) (t1.append t2))
            · cases e0
          | _ => cases e0
        | _ => rw [hda, hdb] at e0; cases o <;> cases e0
      | tuple xs =>
        cases hdb : rb.d with
        | tuple ys =>
          rw [hda, hdb] at e0
          cases o with
          | add =>
            simp only [binD, addD] at e0
            split at e0
            · rename_i hm
              cases e0
              refine go op_catA fun x y H2 Z2 g o1 o2 => ?_
              obtain ⟨a1, vs, e1, q1, t1⟩ := o1.tuple hda
              obtain ⟨a2, ws, e2, q2, t2⟩ := o2.tuple hdb
              refine ⟨a1, a2, vs, ws, e1, e2, q1, q2, by rw [← t1.len, ← t2.len]; exact hm, fun hv => ?_, fun hv hw => ?_, fun hv hw p hp => ?_⟩
              · subst hv
                have hx : xs = [] := List.length_eq_zero_iff.mp t1.len
                subst hx
                subst e2
                refine k _ H2 Z2 g ?_
                have i2 : isIm rb = true := by
                  cases hk : rb.k with
                  | bo i =>
                    obtain ⟨rk, rd⟩ := rb
                    simp only at hk hdb
                    subst hk hdb
                    obtain ⟨_, _, _, t⟩ := o2
                    exact t.elim
                  | _ => simp [isIm, hk]
                have := o2.im i2
                rw [hdb] at this
                exact this
              · subst hw
                have hy : ys = [] := List.length_eq_zero_iff.mp t2.len
                subst hy
                subst e1
                refine k _ H2 Z2 g ?_
                have i1 : isIm ra = true := by
                  cases hk : ra.k with
                  | bo i =>
                    obtain ⟨rk, rd⟩ := ra
                    simp only at hk hda
                    subst hk hda
                    obtain ⟨_, _, _, t⟩ := o1
                    exact t.elim
                  | _ => simp [isIm, hk]
                have := o1.im i1
                rw [hda] at this
                rw [List.append_nil]
                exact this
              · exact k _ _ Z2 (g.trans R (Gr.lay g.rel hp)) (fresh_tuple g.rel hp (t1.append t2))
            · cases e0
          | _ => cases e0
        | _ => rw [hda, hdb] at e0; cases o <;> cases e0
      | _ => rw [hda] at e0; cases o <;> cases e0
end
end Ev

/-! Ev4: one lemma a construct, continued: comparisons, tests, displays, subscripts, calls. -/
namespace Ev
open PySem PySem.Spec PyProof.Rows L2
section
variable {F : Nat → Fn} {C : Nat → PyData} {X : Cx} {G : Gm} {K : PySem.W.Frag} {a b c : Expr} {ia ib ic : Ex} {σ : L2.St} {H : Hp} {Q : VK}

theorem eqD_spec : ∀ {a b : PyData} {r : Bool}, eqD a b = some r → a.plain = true ∧ b.plain = true ∧ min a.depth b.depth ≤ 64 ∧ r = PyData.eqv a b := by
  intro a b r h
  have gen : (if a.plain && b.plain && decide (min a.depth b.depth ≤ 64) then some (PyData.eqv a b) else none) = some r → a.plain = true ∧ b.plain = true ∧ min a.depth b.depth ≤ 64 ∧ r = PyData.eqv a b := by
    intro h
    split at h
    · rename_i hc
      simp only [Bool.and_eq_true, decide_eq_true_eq] at hc
      exact ⟨hc.1.1, hc.1.2, hc.2, (Option.some.inj h).symm⟩
    · cases h
  unfold eqD at h
  split at h
  · cases h; exact ⟨by simp [PyData.plain], by simp [PyData.plain], by simp [PyData.depth], by simp only [PyData.eqv]; try (rw [Bool.eq_iff_iff]; simp)⟩
  · cases h; exact ⟨by simp [PyData.plain], by simp [PyData.plain], by simp [PyData.depth], by simp only [PyData.eqv]; try (rw [Bool.eq_iff_iff]; simp)⟩
  · cases h; exact ⟨by simp [PyData.plain], by simp [PyData.plain], by simp [PyData.depth], by simp only [PyData.eqv]; rw [Bool.eq_iff_iff]; simp⟩
  · cases h; exact ⟨by simp [PyData.plain], by simp [PyData.plain], by simp [PyData.depth], by simp only [PyData.eqv]; try (rw [Bool.eq_iff_iff]; simp)⟩
  · exact gen h
theorem ltD_spec : ∀ {a b : PyData} {r : Bool}, ltD a b = some r → a.plain = true ∧ b.plain = true ∧ PySem.W.alike a b = true ∧ a ≠ .none ∧ min a.depth b.depth ≤ 64 ∧ r = PySem.W.dataLt a b := by
  intro a b r h
  unfold ltD at h
  split at h
  · cases h; exact ⟨by simp [PyData.plain], by simp [PyData.plain], by simp [PySem.W.alike], (fun z => nomatch z), by simp [PyData.depth], (PySem.W.dataLt_int _ _).symm⟩
  · cases h; exact ⟨by simp [PyData.plain], by simp [PyData.plain], by simp [PySem.W.alike], (fun z => nomatch z), by simp [PyData.depth], (PySem.W.dataLt_str _ _).symm⟩
  · cases h
  · split at h
    · rename_i hc
      simp only [Bool.and_eq_true, decide_eq_true_eq] at hc
      exact ⟨hc.1.1.2, hc.1.2, hc.1.1.1, (fun z => by subst z; simp_all), hc.2, (Option.some.inj h).symm⟩
    · cases h
def coOp : Co → CmpOp
  | .lt => .Lt | .le => .LtE | .gt => .Gt | .ge => .GtE | .eq => .Eq | .ne => .NotEq | .isn => .Is | .nin => .IsNot | .in => .In | .notin => .NotIn
theorem rp_none_iff {d : PyData} {x : V} {H : Hp} (h : Rp K H d x) : x = .non ↔ d = .none := by
  cases d with
  | none => exact ⟨fun _ => rfl, fun _ => rp_non h⟩
  | bool b => rw [rp_bl h]; exact ⟨fun z => (nomatch z), fun z => (nomatch z)⟩
  | int b => rw [rp_int h]; exact ⟨fun z => (nomatch z), fun z => (nomatch z)⟩
  | str b => rw [rp_str h]; exact ⟨fun z => (nomatch z), fun z => (nomatch z)⟩
  | list ds => simp only [Rp] at h; obtain ⟨a, _, e, _⟩ := h; subst e; exact ⟨fun z => (nomatch z), fun z => (nomatch z)⟩
  | tuple ds => simp only [Rp] at h; obtain ⟨a, _, e, _⟩ := h; subst e; exact ⟨fun z => (nomatch z), fun z => (nomatch z)⟩
  | dict ds => simp only [Rp] at h; obtain ⟨a, e, _⟩ := h; subst e; exact ⟨fun z => (nomatch z), fun z => (nomatch z)⟩
/-- the rule for a comparison, by the two data -/
theorem cmp_pick (hu : X.A.units + 100 < cLine) {o : Co} {da db : PyData} {bl : Bool} (h : cmpD o da db = some bl) :
    ∃ r : R2, OpR X (compareOp (coOp o)) r ∧ ∀ x y H Q, Rp X.K H da x → Rp X.K H db y → Q (.bl bl) H → r x y H Q := by
  cases o with
  | eq =>
    obtain ⟨p1, p2, hd, e⟩ := eqD_spec h
    exact ⟨_, op_eqP hu, fun x y H Q h1 h2 q => ⟨da, db, h1.dp _ _ p1, h2.dp _ _ p2, p1, p2, hd, by rw [← e]; exact q⟩⟩
  | ne =>
    simp only [cmpD, Option.map_eq_some_iff] at h
    obtain ⟨r, h, rfl⟩ := h
    obtain ⟨p1, p2, hd, e⟩ := eqD_spec h
    exact ⟨_, op_neP hu, fun x y H Q h1 h2 q => ⟨da, db, h1.dp _ _ p1, h2.dp _ _ p2, p1, p2, hd, by rw [← e]; exact q⟩⟩
  | lt =>
    obtain ⟨p1, p2, al, nn, hd, e⟩ := ltD_spec h
    exact ⟨_, op_ltP hu, fun x y H Q h1 h2 q => ⟨da, db, h1.dp _ _ p1, h2.dp _ _ p2, al, nn, hd, by rw [← e]; exact q⟩⟩
  | gt =>
    simp only [cmpD] at h
    split at h
    · cases h
      exact ⟨_, op_gt, fun x y H Q h1 h2 q => ⟨_, _, rp_int h1, rp_int h2, q⟩⟩
    · cases h
  | le =>
    simp only [cmpD] at h
    split at h
    · cases h
      exact ⟨_, op_le, fun x y H Q h1 h2 q => ⟨_, _, rp_int h1, rp_int h2, q⟩⟩
    · cases h
  | ge =>
    simp only [cmpD] at h
    split at h
    · cases h
      exact ⟨_, op_ge, fun x y H Q h1 h2 q => ⟨_, _, rp_int h1, rp_int h2, q⟩⟩
    · cases h
  | isn =>
    simp only [cmpD] at h
    split at h
    · cases h
      exact ⟨_, op_isN, fun x y H Q h1 h2 q => ⟨rp_non h2, by rw [decide_eq_true ((rp_none_iff h1).mpr rfl)]; exact q⟩⟩
    · rename_i hn
      cases h
      exact ⟨_, op_isN, fun x y H Q h1 h2 q => ⟨rp_non h2, by rw [decide_eq_false (fun z => hn ((rp_none_iff h1).mp z))]; exact q⟩⟩
    · cases h
  | nin =>
    simp only [cmpD] at h
    split at h
    · cases h
      exact ⟨_, op_notN, fun x y H Q h1 h2 q => ⟨rp_non h2, by rw [decide_eq_true ((rp_none_iff h1).mpr rfl)]; exact q⟩⟩
    · rename_i hn
      cases h
      exact ⟨_, op_notN, fun x y H Q h1 h2 q => ⟨rp_non h2, by rw [decide_eq_false (fun z => hn ((rp_none_iff h1).mp z))]; exact q⟩⟩
    · cases h
  | «in» =>
    change inD da db = some bl at h
    unfold inD at h
    split at h
    · rename_i ds
      split at h
      · rename_i hc
        simp only [Bool.and_eq_true, decide_eq_true_eq] at hc
        cases h
        exact ⟨_, op_inP hu, fun x y H Q h1 h2 q => ⟨da, .list ds, ds, .inl rfl, h1.dp _ _ hc.1.1, h2.dp _ _ (by simpa only [PyData.plain] using hc.1.2), hc.1.1, hc.1.2, hc.2, q⟩⟩
      · cases h
    · rename_i ds
      split at h
      · rename_i hc
        simp only [Bool.and_eq_true, decide_eq_true_eq] at hc
        cases h
        exact ⟨_, op_inP hu, fun x y H Q h1 h2 q => ⟨da, .tuple ds, ds, .inr rfl, h1.dp _ _ hc.1.1, h2.dp _ _ (by simpa only [PyData.plain] using hc.1.2), hc.1.1, hc.1.2, hc.2, q⟩⟩
      · cases h
    · split at h
      · cases h
        exact ⟨_, op_in_str, fun x y H Q h1 h2 q => ⟨_, _, rp_str h1, rp_str h2, q⟩⟩
      · cases h
    · cases h
  | notin =>
    simp only [cmpD, Option.map_eq_some_iff] at h
    obtain ⟨r, h, rfl⟩ := h
    unfold inD at h
    split at h
    · rename_i ds
      split at h
      · rename_i hc
        simp only [Bool.and_eq_true, decide_eq_true_eq] at hc
        cases h
        exact ⟨_, op_notInP hu, fun x y H Q h1 h2 q => ⟨da, .list ds, ds, .inl rfl, h1.dp _ _ hc.1.1, h2.dp _ _ (by simpa only [PyData.plain] using hc.1.2), hc.1.1, hc.1.2, hc.2, q⟩⟩
      · cases h
    · rename_i ds
      split at h
      · rename_i hc
        simp only [Bool.and_eq_true, decide_eq_true_eq] at hc
        cases h
        exact ⟨_, op_notInP hu, fun x y H Q h1 h2 q => ⟨da, .tuple ds, ds, .inr rfl, h1.dp _ _ hc.1.1, h2.dp _ _ (by simpa only [PyData.plain] using hc.1.2), hc.1.1, hc.1.2, hc.2, q⟩⟩
      · cases h
    · split at h
      · cases h
        exact ⟨_, op_notin_str, fun x y H Q h1 h2 q => ⟨_, _, rp_str h1, rp_str h2, q⟩⟩
      · cases h
    · cases h

theorem snd_cmp (hu : X.A.units + 100 < cLine) {o : Co} {pos : Pos} (ha : Snd F C X a ia) (hb : Snd F C X b ib) : Snd F C X (.Compare a [coOp o] [b] pos) (.cmp o ia ib) := by
  have core : ∀ σ H (Q : VK), tE F C X.K (.cmp o ia ib) σ H Q → ∃ r, OpR X (compareOp (coOp o)) r ∧ tOp r (tE F C X.K ia) (tE F C X.K ib) σ H Q := by
    intro σ H Q h
    obtain ⟨s, Z, B, r, s', R, e, k⟩ := h
    simp only [Ev.eval] at e
    cases ea : Ev.eval F C ia s with
    | none => rw [ea] at e; cases e
    | some pa =>
      obtain ⟨ra, s1⟩ := pa
      rw [ea] at e
      simp only at e
      cases eb : Ev.eval F C ib (lockR ra s1) with
      | none => rw [eb] at e; cases e
      | some pb =>
        obtain ⟨rb, s2⟩ := pb
        rw [eb] at e
        simp only [Option.map_eq_some_iff] at e
        obtain ⟨r0, e0, e⟩ := e
        cases e
        obtain ⟨r, ho, hr⟩ := cmp_pick (X := X) hu e0
        exact ⟨r, ho, tE2 R ea eb fun x y H2 Z2 g o1 o2 => hr x y H2 Q o1.rp o2.rp (k _ H2 Z2 g (ROk.of_im rp_of_bl))⟩
  refine ⟨⟨fun pins s0 σ H Q I h => ?_⟩, ⟨fun pins s0 σ H Q I h => ?_⟩, (fun op vs p z => nomatch z), trivial⟩
  · obtain ⟨r, ho, h'⟩ := core σ H Q h
    exact (pe_cmpR ho ha.pe hb.pe (hb.fn.behind _)).run pins s0 σ H Q I h'
  · obtain ⟨r, ho, h'⟩ := core σ H _ h
    exact (pt_cmpR ho ha.pe hb.pe (hb.fn.behind _)).run pins s0 σ H Q I h'
theorem snd_chn (hu : X.A.units + 100 < cLine) {o1 o2 : Co} {pos : Pos} (ha : Snd F C X a ia) (hb : Snd F C X b ib) (hc : Snd F C X c ic) : Snd F C X (.Compare a [coOp o1, coOp o2] [b, c] pos) (.chn o1 o2 ia ib ic) := by
  have core : ∀ σ H (Q : VK), tE F C X.K (.chn o1 o2 ia ib ic) σ H Q → ∃ r r', OpR X (compareOp (coOp o1)) r ∧ OpR X (compareOp (coOp o2)) r' ∧ tChain r r' (tE F C X.K ia) (tE F C X.K ib) (tE F C X.K ic) σ H Q := by
    intro σ H Q h
    obtain ⟨s, Z, B, r, s', R, e, k⟩ := h
    simp only [Ev.eval] at e
    cases ea : Ev.eval F C ia s with
    | none => rw [ea] at e; cases e
    | some pa =>
      obtain ⟨ra, s1⟩ := pa
      rw [ea] at e
      simp only at e
      cases eb : Ev.eval F C ib s1 with
      | none => rw [eb] at e; cases e
      | some pb =>
        obtain ⟨rb, s2⟩ := pb
        rw [eb] at e
        simp only at e
        split at e
        · rename_i him
          rw [Bool.and_eq_true] at him
          cases ec : cmpD o1 ra.d rb.d with
          | none => rw [ec] at e; cases e
          | some bl =>
            rw [ec] at e
            obtain ⟨r1, ho1, hr1⟩ := cmp_pick (X := X) hu ec
            cases bl with
            | false =>
              cases e
              refine ⟨r1, fun x y H Q => False, ho1, fun _ _ _ _ _ _ _ _ _ _ _ _ z => z.elim, s, Z, B, ra, s1, R, ea, fun x H1 Z1 g1 q1 => ?_⟩
              refine ⟨s1, Z1, B, rb, _, g1.rel, eb, fun y H2 Z2 g2 q2 => ?_⟩
              have q1' := q1.stay_im him.1 g1.rel g2
              refine hr1 x y H2 _ q1'.rp q2.rp ⟨false, rfl, iteF (k _ H2 Z2 (g1.trans R g2) (ROk.of_im rp_of_bl))⟩
            | true =>
              simp only at e
              cases ed : Ev.eval F C ic s2 with
              | none => rw [ed] at e; cases e
              | some pc =>
                obtain ⟨rc, s3⟩ := pc
                rw [ed] at e
                simp only [Option.map_eq_some_iff] at e
                obtain ⟨r0, e0, e⟩ := e
                cases e
                obtain ⟨r2, ho2, hr2⟩ := cmp_pick (X := X) hu e0
                refine ⟨r1, r2, ho1, ho2, s, Z, B, ra, s1, R, ea, fun x H1 Z1 g1 q1 => ?_⟩
                refine ⟨s1, Z1, B, rb, _, g1.rel, eb, fun y H2 Z2 g2 q2 => ?_⟩
                have q1' := q1.stay_im him.1 g1.rel g2
                refine hr1 x y H2 _ q1'.rp q2.rp ⟨true, rfl, iteT ?_⟩
                refine ⟨s2, Z2, B, rc, _, g2.rel, ed, fun w' H3 Z3 g3 q3 => ?_⟩
                have q2' := q2.stay_im him.2 g2.rel g3
                exact hr2 y w' H3 Q q2'.rp q3.rp (k _ H3 Z3 (g1.trans R (g2.trans g1.rel g3)) (ROk.of_im rp_of_bl))
        · cases e
  have hm : lastMarks [coOp o1, coOp o2] [b, c] = false := by
    show lastMarks [coOp o2] [c] = false
    exact hc.fn.behind _
  refine ⟨⟨fun pins s0 σ H Q I h => ?_⟩, ⟨fun pins s0 σ H Q I h => ?_⟩, (fun op vs p z => nomatch z), trivial⟩
  · obtain ⟨r, r', ho, ho', h'⟩ := core σ H Q h
    exact (pe_chain ho ho' ha.pe hb.pe hc.pe hm).run pins s0 σ H Q I h'
  · obtain ⟨r, r', ho, ho', h'⟩ := core σ H _ h
    exact (pt_chain ho ho' ha.pe hb.pe hc.pe hm).run pins s0 σ H Q I h'

/-! ### and, or, not, if -/
theorem and_core {σ : L2.St} {H : Hp} {Q : VK} (h : tE F C K (.and ia ib) σ H Q) : tE F C K ia σ H fun x H1 => ∃ c, x = .bl c ∧ if c = true then tE F C K ib σ H1 (fun y H2 => ∃ d, y = .bl d ∧ Q (.bl d) H2) else Q (.bl false) H1 := by
  obtain ⟨s, Z, B, r, s', R, e, k⟩ := h
  simp only [Ev.eval] at e
  split at e
  · rename_i k1 s1 ea
    split at e
    · rename_i k2 d s2 eb
      cases e
      refine ⟨s, Z, B, _, s1, R, ea, fun x H1 Z1 g1 q1 => ⟨true, rp_bl q1.rp, iteT ?_⟩⟩
      exact ⟨s1, Z1, B, _, _, g1.rel, eb, fun y H2 Z2 g2 q2 => ⟨d, rp_bl q2.rp, k _ H2 Z2 (g1.trans R g2) (ROk.of_im rp_of_bl)⟩⟩
    · cases e
  · rename_i k1 s1 ea
    cases e
    exact ⟨s, Z, B, _, _, R, ea, fun x H1 Z1 g1 q1 => ⟨false, rp_bl q1.rp, iteF (k _ H1 Z1 g1 (ROk.of_im rp_of_bl))⟩⟩
  · cases e
theorem or_core {σ : L2.St} {H : Hp} {Q : VK} (h : tE F C K (.or ia ib) σ H Q) : tE F C K ia σ H fun x H1 => ∃ c, x = .bl c ∧ if c = true then Q (.bl true) H1 else tE F C K ib σ H1 (fun y H2 => ∃ d, y = .bl d ∧ Q (.bl d) H2) := by
  obtain ⟨s, Z, B, r, s', R, e, k⟩ := h
  simp only [Ev.eval] at e
  split at e
  · rename_i k1 s1 ea
    cases e
    exact ⟨s, Z, B, _, _, R, ea, fun x H1 Z1 g1 q1 => ⟨true, rp_bl q1.rp, iteT (k _ H1 Z1 g1 (ROk.of_im rp_of_bl))⟩⟩
  · rename_i k1 s1 ea
    split at e
    · rename_i k2 d s2 eb
      cases e
      refine ⟨s, Z, B, _, s1, R, ea, fun x H1 Z1 g1 q1 => ⟨false, rp_bl q1.rp, iteF ?_⟩⟩
      exact ⟨s1, Z1, B, _, _, g1.rel, eb, fun y H2 Z2 g2 q2 => ⟨d, rp_bl q2.rp, k _ H2 Z2 (g1.trans R g2) (ROk.of_im rp_of_bl)⟩⟩
    · cases e
  · cases e
theorem tE_mono {ir : Ex} {σ : L2.St} {H : Hp} {Q Q' : VK} (h : tE F C K ir σ H Q) (q : ∀ v H', Q v H' → Q' v H') : tE F C K ir σ H Q' := by
  obtain ⟨s, Z, B, r, s', R, e, k⟩ := h
  exact ⟨s, Z, B, r, s', R, e, fun v H' Z' g o => q _ _ (k v H' Z' g o)⟩
theorem bl_mono {ir : Ex} {σ : L2.St} {H : Hp} {Q : VK} (h : tE F C K ir σ H (fun y H2 => ∃ d, y = .bl d ∧ Q (.bl d) H2)) : tE F C K ir σ H Q :=
  tE_mono h fun v H' ⟨d, e, q⟩ => by subst e; exact q
theorem snd_and {y : Expr} {rest : List Expr} {pos : Pos} (ha : Snd F C X a ia) (hb : (rest = [] ∧ Snd F C X y ib) ∨ (rest ≠ [] ∧ Snd F C X (.BoolOp .And (y :: rest) pos) ib)) : Snd F C X (.BoolOp .And (a :: y :: rest) pos) (.and ia ib) := by
  have pe : PE X (.BoolOp .And (y :: rest) pos) (tE F C X.K ib) := by
    rcases hb with ⟨rfl, hb⟩ | ⟨_, hb⟩
    · exact pe_one hb.pe
    · exact hb.pe
  have pw : PW X (.BoolOp .And (y :: rest) pos) (tB (tE F C X.K ib)) := by
    rcases hb with ⟨rfl, hb⟩ | ⟨_, hb⟩
    · exact pw_and1 hb.pt
    · exact hb.pw _ _ _ rfl
  have PWw : PW X (.BoolOp .And (a :: y :: rest) pos) (tB (tE F C X.K (.and ia ib))) := by
    refine PW.imp (pw_and ha.pt pw) fun σ H Q h => ?_
    refine tE_mono (and_core h) fun v H1 ⟨c, e, q⟩ => ⟨c, e, ?_⟩
    cases c with
    | true =>
      refine iteT ?_
      have q : tE F C X.K ib σ H1 _ := q
      exact tE_mono q fun v H2 ⟨d, e, c', e', q⟩ => ⟨c', e.trans e', q⟩
    | false =>
      obtain ⟨c', e', q⟩ := (show ∃ c, V.bl false = .bl c ∧ Q c H1 from q)
      cases e'
      exact q
  refine ⟨PE.imp (pe_and ha.pe pe) fun σ H Q h => ?_, PWw.pt, fun op vs p z => ?_, trivial⟩
  · refine tE_mono (and_core h) fun v H1 ⟨c, e, q⟩ => ⟨c, e, ?_⟩
    cases c with
    | true => exact bl_mono q
    | false => exact q
  · cases z
    exact PWw
theorem snd_or {y : Expr} {rest : List Expr} {pos : Pos} (ha : Snd F C X a ia) (hb : (rest = [] ∧ Snd F C X y ib) ∨ (rest ≠ [] ∧ Snd F C X (.BoolOp .Or (y :: rest) pos) ib)) : Snd F C X (.BoolOp .Or (a :: y :: rest) pos) (.or ia ib) := by
  have pe : PE X (.BoolOp .Or (y :: rest) pos) (tE F C X.K ib) := by
    rcases hb with ⟨rfl, hb⟩ | ⟨_, hb⟩
    · exact pe_one hb.pe
    · exact hb.pe
  have pw : PW X (.BoolOp .Or (y :: rest) pos) (tB (tE F C X.K ib)) := by
    rcases hb with ⟨rfl, hb⟩ | ⟨_, hb⟩
    · exact pw_or1 hb.pt
    · exact hb.pw _ _ _ rfl
  have PWw : PW X (.BoolOp .Or (a :: y :: rest) pos) (tB (tE F C X.K (.or ia ib))) := by
    refine PW.imp (pw_or ha.pt pw) fun σ H Q h => ?_
    refine tE_mono (or_core h) fun v H1 ⟨c, e, q⟩ => ⟨c, e, ?_⟩
    cases c with
    | false =>
      refine iteF ?_
      have q : tE F C X.K ib σ H1 _ := q
      exact tE_mono q fun v H2 ⟨d, e, c', e', q⟩ => ⟨c', e.trans e', q⟩
    | true =>
      obtain ⟨c', e', q⟩ := (show ∃ c, V.bl true = .bl c ∧ Q c H1 from q)
      cases e'
      exact q
  refine ⟨PE.imp (pe_or ha.pe pe) fun σ H Q h => ?_, PWw.pt, fun op vs p z => ?_, trivial⟩
  · refine tE_mono (or_core h) fun v H1 ⟨c, e, q⟩ => ⟨c, e, ?_⟩
    cases c with
    | false => exact bl_mono q
    | true => exact q
  · cases z
    exact PWw
theorem not_core {σ : L2.St} {H : Hp} {Q : VK} (h : tE F C K (.not ia) σ H Q) : tE F C K ia σ H fun x H1 => ∃ c, x = .bl c ∧ Q (.bl (!c)) H1 := by
  obtain ⟨s, Z, B, r, s', R, e, k⟩ := h
  simp only [Ev.eval] at e
  split at e
  · rename_i k1 d s1 ea
    cases e
    exact ⟨s, Z, B, _, _, R, ea, fun x H1 Z1 g1 q1 => ⟨d, rp_bl q1.rp, k _ H1 Z1 g1 (ROk.of_im rp_of_bl)⟩⟩
  · cases e
theorem snd_not {pos : Pos} (ha : Snd F C X a ia) : Snd F C X (.UnaryOp .Not a pos) (.not ia) := by
  refine ⟨PE.imp (pe_not ha.pe) fun σ H Q h => not_core h, PT.imp (pt_not ha.pt) fun σ H Q h => ?_, (fun op vs p z => nomatch z), trivial⟩
  refine tE_mono (not_core h) fun v H1 ⟨c, e, c', e', q⟩ => ⟨c, e, ?_⟩
  cases e'
  exact q
theorem pt_ifExp {c a b : Expr} {pos : Pos} {tc ta tb : TT} (hc : PT X c tc) (ha : PT X a ta) (hb : PT X b tb) : PT X (.IfExp c a b pos) (fun σ H Q => tc σ H fun d H1 => if d = true then ta σ H1 Q else tb σ H1 Q) := by
  refine ⟨fun pins s σ H Q I h => ?_⟩
  show wpAny _ _ (isTrue c X.env (PySem.eval c X.env) >>= fun d => if d = true then isTrue a X.env (PySem.eval a X.env) else isTrue b X.env (PySem.eval b X.env)) _ _ s
  refine wpAny_bind (thn (hc.run pins s σ H _ I h) fun d s1 ⟨H1, I1, q1⟩ => ?_)
  cases d with
  | true => exact ha.run pins s1 σ H1 Q I1 q1
  | false => exact hb.run pins s1 σ H1 Q I1 q1
theorem ife_core {σ : L2.St} {H : Hp} {Q : VK} (h : tE F C K (.ife ic ia ib) σ H Q) : tE F C K ic σ H fun x H1 => ∃ d, x = .bl d ∧ if d = true then tE F C K ia σ H1 Q else tE F C K ib σ H1 Q := by
  obtain ⟨s, Z, B, r, s', R, e, k⟩ := h
  simp only [Ev.eval] at e
  split at e
  · rename_i k1 s1 ea
    refine ⟨s, Z, B, _, _, R, ea, fun x H1 Z1 g1 q1 => ⟨true, rp_bl q1.rp, iteT ?_⟩⟩
    exact ⟨s1, Z1, B, r, s', g1.rel, e, fun v H2 Z2 g2 q2 => k v H2 Z2 (g1.trans R g2) (q2.older g1.old)⟩
  · rename_i k1 s1 ea
    refine ⟨s, Z, B, _, _, R, ea, fun x H1 Z1 g1 q1 => ⟨false, rp_bl q1.rp, iteF ?_⟩⟩
    exact ⟨s1, Z1, B, r, s', g1.rel, e, fun v H2 Z2 g2 q2 => k v H2 Z2 (g1.trans R g2) (q2.older g1.old)⟩
  · cases e
theorem snd_ife {pos : Pos} (hc : Snd F C X c ic) (ha : Snd F C X a ia) (hb : Snd F C X b ib) : Snd F C X (.IfExp c a b pos) (.ife ic ia ib) := by
  refine ⟨PE.imp (pe_ifExp hc.pt ha.pe hb.pe) fun σ H Q h => ife_core h, PT.imp (pt_ifExp hc.pt ha.pt hb.pt) fun σ H Q h => ?_, (fun op vs p z => nomatch z), trivial⟩
  exact tE_mono (ife_core h) fun v H1 ⟨d, e, q⟩ => ⟨d, e, q⟩

/-! ### lists of expressions -/
theorem RsL.stay {rs : List Rs} : ∀ {vs : List V} {H0 H' : Hp} {Z Z' : Nat → Option Addr} {B : Addr → Prop} {s s' : Stt}, rs.all isIm = true → RsL K H0 H Z B rs vs → Rel K H σ s Z B → Gr K B σ H s Z H' s' Z' → RsL K H0 H' Z' B rs vs := by
  induction rs with
  | nil => intro vs _ _ _ _ _ _ _ _ h _ _; exact h
  | cons r rs ih =>
    intro vs H0 H' Z Z' B s s' hi h R g
    rw [List.all_cons, Bool.and_eq_true] at hi
    obtain ⟨v, us, e, h1, h2⟩ := h
    exact ⟨v, us, e, h1.stay_im hi.1 R g, ih hi.2 h2 R g⟩
theorem RsL.older {rs : List Rs} : ∀ {vs : List V} {H0 H00 : Hp} {Z : Nat → Option Addr} {B : Addr → Prop}, RsL K H0 H Z B rs vs → (∀ b, H0 b = none → H00 b = none) → RsL K H00 H Z B rs vs := by
  induction rs with
  | nil => intro vs _ _ _ _ h _; exact h
  | cons r rs ih =>
    intro vs H0 H00 Z B h f
    obtain ⟨v, us, e, h1, h2⟩ := h
    exact ⟨v, us, e, h1.older f, ih h2 f⟩
theorem RsL.rp {rs : List Rs} : ∀ {vs : List V} {H0 : Hp} {Z : Nat → Option Addr} {B : Addr → Prop}, RsL K H0 H Z B rs vs → RpL K H (rs.map (·.d)) vs := by
  induction rs with
  | nil => intro vs _ _ _ h; simp only [List.map_nil, RpL]; exact h
  | cons r rs ih =>
    intro vs H0 Z B h
    obtain ⟨v, us, e, h1, h2⟩ := h
    subst e
    exact .cons h1.rp (ih h2)
theorem RsL.im {rs : List Rs} : ∀ {vs : List V} {H0 : Hp} {Z : Nat → Option Addr} {B : Addr → Prop}, rs.all isIm = true → RsL K H0 H Z B rs vs → RpL K (Hid H (Ev.hd Z B)) (rs.map (·.d)) vs := by
  induction rs with
  | nil => intro vs _ _ _ _ h; simp only [List.map_nil, RpL]; exact h
  | cons r rs ih =>
    intro vs H0 Z B hi h
    rw [List.all_cons, Bool.and_eq_true] at hi
    obtain ⟨v, us, e, h1, h2⟩ := h
    subst e
    exact .cons (h1.im hi.1) (ih hi.2 h2)
theorem RsL.len {rs : List Rs} : ∀ {vs : List V} {H0 : Hp} {Z : Nat → Option Addr} {B : Addr → Prop}, RsL K H0 H Z B rs vs → vs.length = rs.length := by
  induction rs with
  | nil => intro vs _ _ _ h; have h : vs = [] := h; subst h; rfl
  | cons r rs ih =>
    intro vs H0 Z B h
    obtain ⟨v, us, e, h1, h2⟩ := h
    subst e
    simp only [List.length_cons, ih h2]
inductive SndL (F : Nat → Fn) (C : Nat → PyData) (X : Cx) : List Expr → List Ex → Prop where
  | nil : SndL F C X [] []
  | cons {e : Expr} {ir : Ex} {es : List Expr} {irs : List Ex} (h : Snd F C X e ir) (t : SndL F C X es irs) : SndL F C X (e :: es) (ir :: irs)
theorem tEL_cons {ir : Ex} {irs : List Ex} {σ : L2.St} {H : Hp} {Q : List V → Hp → Prop} (h : tEL F C K (ir :: irs) σ H Q) : tCons (tE F C K ir) (tEL F C K irs) σ H Q := by
  obtain ⟨s, Z, B, rs, s', R, e, k⟩ := h
  simp only [Ev.evalL] at e
  cases ea : Ev.eval F C ir s with
  | none => rw [ea] at e; cases e
  | some pa =>
    obtain ⟨r, s1⟩ := pa
    rw [ea] at e
    simp only at e
    cases eb : Ev.evalL F C irs (lockR r s1) with
    | none => rw [eb] at e; cases e
    | some pb =>
      obtain ⟨rs', s2⟩ := pb
      rw [eb] at e
      cases e
      refine ⟨s, Z, B, r, s1, R, ea, fun x H1 Z1 g1 o1 => ?_⟩
      refine ⟨_, Z1, B, rs', s2, g1.rel.lock r, eb, fun xs H2 Z2 g2 o2 => ?_⟩
      have g3 := Gr.unlock r g2
      exact k _ H2 Z2 (g1.trans R g3) ⟨x, xs, rfl, o1.stay g1.rel g2, o2.older g1.old⟩
theorem SndL.pa {es : List Expr} {irs : List Ex} (h : SndL F C X es irs) : PA X es (tEL F C X.K irs) := by
  induction h with
  | nil =>
    refine PA.imp pa_nil fun σ H Q h => ?_
    obtain ⟨s, Z, B, rs, s', R, e, k⟩ := h
    simp only [Ev.evalL, Option.some.injEq, Prod.mk.injEq] at e
    obtain ⟨rfl, rfl⟩ := e
    exact k [] H Z (.refl R) rfl
  | cons h t ih => exact PA.imp (pa_cons h.pe ih (h.fn.star _ _)) fun σ H Q q => tEL_cons q
theorem SndL.star {es : List Expr} {irs : List Ex} (h : SndL F C X es irs) (pos : Pos) (env : PySem.Env) : (backTo pos (starEach es env)).any (·.1) = false := by
  induction h with
  | nil => rfl
  | cons h t ih =>
    rw [h.fn.star]
    simp only [backTo, List.map_cons, List.any_cons, Bool.false_or]
    exact ih
theorem snd_tup {es : List Expr} {irs : List Ex} {k : Nat} {pos : Pos} (h : SndL F C X es irs) : Snd F C X (.Tuple es k pos) (.tup irs) := by
  refine snd_val (PE.imp (pe_tup h.pa) fun σ H Q h => ?_) (by intro _; rfl) (fun _ _ _ z => nomatch z) trivial
  obtain ⟨s, Z, B, r, s', R, e, k⟩ := h
  simp only [Ev.eval] at e
  split at e
  · rename_i rs s1 ea
    split at e
    · rename_i hc
      rw [Bool.and_eq_true, decide_eq_true_eq] at hc
      cases e
      refine ⟨s, Z, B, rs, _, R, ea, fun xs H1 Z1 g1 o1 => ⟨by rw [o1.len]; exact hc.2, fun p hp => ?_⟩⟩
      exact k _ _ Z1 (g1.trans R (Gr.lay g1.rel hp)) (fresh_tuple g1.rel hp (o1.im hc.1))
    · cases e
  · cases e
theorem snd_lst {es : List Expr} {irs : List Ex} {pos : Pos} (h : SndL F C X es irs) : Snd F C X (.List es pos) (.lst irs) := by
  refine snd_val (PE.imp (pe_lst h.pa) fun σ H Q h => ?_) (by intro _; rfl) (fun _ _ _ z => nomatch z) trivial
  obtain ⟨s, Z, B, r, s', R, e, k⟩ := h
  simp only [Ev.eval] at e
  split at e
  · rename_i rs s1 ea
    split at e
    · rename_i hc
      rw [Bool.and_eq_true, decide_eq_true_eq] at hc
      cases e
      refine ⟨s, Z, B, rs, _, R, ea, fun xs H1 Z1 g1 o1 => ⟨by rw [o1.len]; exact hc.2, fun p hp => ?_⟩⟩
      exact k _ _ Z1 (g1.trans R (Gr.lay g1.rel hp)) (fresh_list g1.rel hp (g1.old p hp) (o1.im hc.1))
    · cases e
  · cases e

/-! ### subscripts, slices -/
theorem atI_rp {ds : List PyData} {vs : List V} {i : Int} {d : PyData} (t : RpL K H ds vs) (e : atI ds i = some d) : ∃ v, atI vs i = some v ∧ Rp K H d v := by
  unfold atI at e ⊢
  rw [← t.len]
  cases q : ixN ds.length i with
  | none => rw [q] at e; cases e
  | some j =>
    rw [q] at e
    obtain ⟨v, h1, h2⟩ := t.get (show ds[j]? = some d from e)
    exact ⟨v, h1, h2⟩
theorem snd_sub {pos : Pos} (ha : Snd F C X a ia) (hb : Snd F C X b ib) : Snd F C X (.Subscript a b pos) (.sub ia ib) := by
  refine snd_val ⟨fun pins s0 σ H Q I h => ?_⟩ (by intro _; rfl) (fun _ _ _ z => nomatch z) trivial
  obtain ⟨s, Z, B, r, s', R, e, k⟩ := h
  simp only [Ev.eval] at e
  cases ea : Ev.eval F C ia s with
  | none => rw [ea] at e; cases e
  | some pa =>
    obtain ⟨ra, s1⟩ := pa
    rw [ea] at e
    simp only at e
    cases eb : Ev.eval F C ib (lockR ra s1) with
    | none => rw [eb] at e; cases e
    | some pb =>
      obtain ⟨rb, s2⟩ := pb
      rw [eb] at e
      simp only [Option.map_eq_some_iff] at e
      obtain ⟨d, e0, e⟩ := e
      cases e
      unfold subD at e0
      split at e0
      · rename_i ds i hda hdb
        refine (pe_ix ix_list ha.pe hb.pe hb.fn.ix).run pins s0 σ H Q I (tE2 R ea eb fun x y H2 Z2 g o1 o2 => ?_)
        obtain ⟨p, vs, e1, q1, t1⟩ := o1.list hda
        have h2 := o2.rp
        rw [hdb] at h2
        obtain ⟨v, h3, h4⟩ := atI_rp t1 e0
        exact ⟨p, vs, i, v, e1, rp_int h2, q1, h3, k v H2 Z2 g h4⟩
      · rename_i ds i hda hdb
        refine (pe_ix ix_tup ha.pe hb.pe hb.fn.ix).run pins s0 σ H Q I (tE2 R ea eb fun x y H2 Z2 g o1 o2 => ?_)
        obtain ⟨p, vs, e1, q1, t1⟩ := o1.tuple hda
        have h2 := o2.rp
        rw [hdb] at h2
        obtain ⟨v, h3, h4⟩ := atI_rp t1 e0
        exact ⟨p, vs, i, v, e1, rp_int h2, q1, h3, k v H2 Z2 g h4⟩
      · rename_i z i hda hdb
        split at e0
        · rename_i hz
          simp only [Option.map_eq_some_iff] at e0
          obtain ⟨ch, e1, rfl⟩ := e0
          refine (pe_ix ix_str ha.pe hb.pe hb.fn.ix).run pins s0 σ H Q I (tE2 R ea eb fun x y H2 Z2 g o1 o2 => ?_)
          have h1 := o1.rp
          have h2 := o2.rp
          rw [hda] at h1
          rw [hdb] at h2
          exact ⟨z, i, ch, rp_str h1, rp_int h2, hz, e1, k _ H2 Z2 g (ROk.of_im rp_of_str)⟩
        · cases e0
      · cases e0
theorem cutD_rp {ds : List PyData} {vs : List V} (t : RpL K H ds vs) (lo hi : Option Int) : RpL K H (cutD ds lo hi) (cutV vs lo hi) := by
  unfold cutD cutV
  rw [t.len]
  exact (t.drop _).take _
/-- a part of a slice -/
inductive SndO (F : Nat → Fn) (C : Nat → PyData) (X : Cx) : Option Expr → List Ex → Prop where
  | none : SndO F C X none []
  | some {e : Expr} {ir : Ex} (h : Snd F C X e ir) : SndO F C X (some e) [ir]
def tEO (F : Nat → Fn) (C : Nat → PyData) (K : PySem.W.Frag) (irs : List Ex) : TO := fun σ H Q => ∃ s Z B rs s' o, Rel K H σ s Z B ∧ Ev.evalL F C irs s = some (rs, s') ∧ optI rs = some o ∧ ∀ H' Z', Gr K B σ H s Z H' s' Z' → Q o H'
theorem PO.imp {e : Option Expr} {t t' : TO} (h : PO X e t) (k : ∀ σ H Q, t' σ H Q → t σ H Q) : PO X e t' := ⟨fun pins s σ H Q I q => h.run pins s σ H Q I (k σ H Q q)⟩
theorem SndO.po {o : Option Expr} {irs : List Ex} (h : SndO F C X o irs) : PO X o (tEO F C X.K irs) := by
  cases h with
  | none =>
    refine PO.imp po_none fun σ H Q h => ?_
    obtain ⟨s, Z, B, rs, s', o, R, e, eo, k⟩ := h
    simp only [Ev.evalL, Option.some.injEq, Prod.mk.injEq] at e
    obtain ⟨rfl, rfl⟩ := e
    cases eo
    exact k H Z (.refl R)
  | some h =>
    rename_i e1 ir
    refine PO.imp (po_some h.pe) fun σ H Q h => ?_
    obtain ⟨s, Z, B, rs, s', o, R, e, eo, k⟩ := h
    simp only [Ev.evalL] at e
    cases ea : Ev.eval F C ir s with
    | none => rw [ea] at e; cases e
    | some pa =>
      obtain ⟨r, s1⟩ := pa
      rw [ea] at e
      simp only [Option.some.injEq, Prod.mk.injEq] at e
      obtain ⟨rfl, rfl⟩ := e
      obtain ⟨rk, rd⟩ := r
      cases rd with
      | int i =>
        cases eo
        refine ⟨s, Z, B, _, s1, R, ea, fun v H1 Z1 g1 o1 => ⟨i, rp_int o1.rp, k H1 Z1 ?_⟩⟩
        exact g1.trans R (Gr.unlock _ (Gr.refl (g1.rel.lock _)))
      | _ => cases eo
theorem snd_slc {lo hi : Option Expr} {il ih : List Ex} {p2 pos : Pos} (ha : Snd F C X a ia) (hl : SndO F C X lo il) (hh : SndO F C X hi ih) : Snd F C X (.Subscript a (.Slice lo hi none p2) pos) (.slc ia il ih) := by
  refine snd_val ⟨fun pins s0 σ H Q I h => ?_⟩ (by intro _; rfl) (fun _ _ _ z => nomatch z) trivial
  obtain ⟨s, Z, B, r, s', R, e, k⟩ := h
  simp only [Ev.eval] at e
  cases ea : Ev.eval F C ia s with
  | none => rw [ea] at e; cases e
  | some pa =>
    obtain ⟨ra, s1⟩ := pa
    rw [ea] at e
    simp only at e
    cases el : Ev.evalL F C il (lockR ra s1) with
    | none => rw [el] at e; cases e
    | some pl =>
      obtain ⟨rl, s2⟩ := pl
      rw [el] at e
      simp only at e
      cases eh : Ev.evalL F C ih s2 with
      | none => rw [eh] at e; cases e
      | some ph =>
        obtain ⟨rh, s3⟩ := ph
        rw [eh] at e
        simp only at e
        split at e
        · rename_i l u ol oh
          simp only [Option.map_eq_some_iff] at e
          obtain ⟨r0, e0, e⟩ := e
          cases e
          have go : ∀ {ir : V → Option Int → Option Int → Hp → VK → Prop}, SlR X ir → (∀ x H2 Z2, Gr X.K B σ H s Z H2 (unlockR ra s1 s3) Z2 → ROk X.K H H2 Z2 B ra x → ir x l u H2 Q) →
              wpAny (model X.prog X.w) X.A (PySem.eval (.Subscript a (.Slice lo hi none p2) pos) X.env) (EP X pins σ Q) X.xe s0 := fun {ir} ho q => by
            refine (pe_slice ho ha.pe hl.po hh.po).run pins s0 σ H Q I ?_
            refine ⟨s, Z, B, ra, s1, R, ea, fun x H1 Z1 g1 o1 => ?_⟩
            refine ⟨_, Z1, B, rl, s2, l, g1.rel.lock ra, el, ol, fun H2 Z2 g2 => ?_⟩
            refine ⟨_, Z2, B, rh, s3, u, g2.rel, eh, oh, fun H3 Z3 g3 => ?_⟩
            have g4 := g2.trans (g1.rel.lock ra) g3
            exact q x H3 Z3 (g1.trans R (Gr.unlock ra g4)) (o1.stay g1.rel g4)
          unfold slcD at e0
          split at e0
          · rename_i ds hda
            cases e0
            refine go sl_list fun x H2 Z2 g o1 => ?_
            obtain ⟨p, vs, e1, q1, t1⟩ := o1.list hda
            exact ⟨p, vs, e1, q1, fun q hq => k _ _ Z2 (g.trans R (Gr.lay g.rel hq)) (fresh_list g.rel hq (g.old q hq) (cutD_rp t1 l u))⟩
          · rename_i ds hda
            cases e0
            refine go sl_tupA fun x H2 Z2 g o1 => ?_
            obtain ⟨p, vs, e1, q1, t1⟩ := o1.tuple hda
            refine ⟨p, vs, e1, q1, fun hw => ?_, fun _ q hq => k _ _ Z2 (g.trans R (Gr.lay g.rel hq)) (fresh_tuple g.rel hq (cutD_rp t1 l u))⟩
            subst e1
            have hc : cutD ds l u = ds := by
              unfold cutD
              rw [t1.len, hw.1, hw.2, Nat.sub_zero, List.drop_zero, ← t1.len, List.take_length]
            refine k _ H2 Z2 g ?_
            rw [hc]
            have i1 : isIm ra = true := by
              cases hk : ra.k with
              | bo i =>
                obtain ⟨rk, rd⟩ := ra
                simp only at hk hda
                subst hk hda
                obtain ⟨_, _, _, t⟩ := o1
                exact t.elim
              | _ => simp [isIm, hk]
            have := o1.im i1
            rw [hda] at this
            exact this
          · rename_i z hda
            split at e0
            · rename_i hz
              cases e0
              refine go sl_str fun x H2 Z2 g o1 => ?_
              have h1 := o1.rp
              rw [hda] at h1
              exact ⟨z, rp_str h1, hz, k _ H2 Z2 g (ROk.of_im rp_of_str)⟩
            · cases e0
          · cases e0
        · cases e
end
end Ev

/-! Ev5: calls of defs, of built-ins, of methods. -/
namespace Ev
open PySem PySem.Spec PyProof.Rows L2
section
variable {F : Nat → Fn} {C : Nat → PyData} {X : Cx} {G : Gm} {K : PySem.W.Frag} {a b c : Expr} {ia ib ic : Ex} {σ : L2.St} {H : Hp} {Q : VK}
theorem evalL_len : ∀ {es : List Ex} {s : Stt} {rs : List Rs} {s' : Stt}, Ev.evalL F C es s = some (rs, s') → rs.length = es.length
  | [], s, rs, s', h => by simp only [Ev.evalL, Option.some.injEq, Prod.mk.injEq] at h; rw [← h.1]; rfl
  | e :: es, s, rs, s', h => by
    simp only [Ev.evalL] at h
    split at h
    · split at h
      · rename_i e2
        cases h
        rw [List.length_cons, List.length_cons, evalL_len e2]
      · cases h
    · cases h
/-- the heap has grown -/
theorem Gr.grow {H' : Hp} {s : Stt} {Z : Nat → Option Addr} {B : Addr → Prop} (R : Rel K H σ s Z B) (e : Same H H') : Gr K B σ H s Z H' s Z := by
  have hs : Same (Hid H (hd Z B)) (Hid H' (hd Z B)) := fun b o q => by
    obtain ⟨n, q⟩ := hid_some.mp q
    exact hid_some.mpr ⟨n, e b o q⟩
  refine ⟨⟨R.ls, R.inj, R.nb, fun i a h => ?_, fun i d h => ?_, R.has, fun b h => ?_⟩, fun b o q _ => e b o q, fun b o q => ⟨o, e b o q⟩, fun _ _ h => .inl h, fun _ _ h => ⟨h, rfl⟩, rfl, fun _ h => h⟩
  · obtain ⟨d, q, e1, t⟩ := R.own i a h
    exact ⟨d, q, e1, t.mono (fun o q => e a o q) hs⟩
  · obtain ⟨v, q, t⟩ := R.im i d h
    exact ⟨v, q, Rp.mono hs _ _ t⟩
  · obtain ⟨o, q, l⟩ := R.bt b h
    exact ⟨o, e b o q, l⟩
/-- the list of slot i is changed -/
theorem Gr.put {H' : Hp} {s : Stt} {Z : Nat → Option Addr} {B : Addr → Prop} {i : Nat} {p p' : PyData} {a : Addr} (R : Rel K H σ s Z B) (hi : s[i]? = some (.ow p)) (ha : Z i = some a)
    (kp : ∀ b o, b ≠ a → H b = some o → H' b = some o) (t : Top K H' (Hid H' (hd Z B)) p' a) : Gr K B σ H s Z H' (s.set i (.ow p')) Z := by
  have his : i < s.length := (List.getElem?_eq_some_iff.mp hi).1
  have hs : Same (Hid H (hd Z B)) (Hid H' (hd Z B)) := fun b o q => by
    obtain ⟨n, q⟩ := hid_some.mp q
    exact hid_some.mpr ⟨n, kp b o (fun z => n (.inl ⟨i, by rw [z]; exact ha⟩)) q⟩
  have get : ∀ j, j ≠ i → (s.set i (Sl.ow p'))[j]? = s[j]? := fun j hj => List.getElem?_set_ne (Ne.symm hj)
  have tr : ∀ b o, H b = some o → ∃ o', H' b = some o' := fun b o q => by
    by_cases z : b = a
    · subst z
      obtain ⟨u, hu, _⟩ := t.ld
      exact ⟨u, hu⟩
    · exact ⟨o, kp b o z q⟩
  refine ⟨⟨by rw [List.length_set]; exact R.ls, R.inj, R.nb, fun j b h => ?_, fun j d h => ?_, fun j d h => ?_, fun b h => ?_⟩, fun b o q n => kp b o (fun z => n i p hi (by rw [z]; exact ha)) q, tr, fun _ _ h => .inl h, fun j d h => ?_, List.length_set, fun _ h => h⟩
  · by_cases z : j = i
    · subst z
      rw [ha] at h
      cases h
      obtain ⟨_, _, q, _⟩ := R.own j a ha
      exact ⟨p', .inl (List.getElem?_set_self his), q, t⟩
    · obtain ⟨d, q, e1, t'⟩ := R.own j b h
      have hb : b ≠ a := fun z' => z (R.inj j i a (by rw [← z']; exact h) ha)
      exact ⟨d, by rw [get j z]; exact q, e1, t'.mono (fun o q => kp b o hb q) hs⟩
  · have z : j ≠ i := fun z => by
      subst z
      rw [List.getElem?_set_self his] at h
      cases h
    rw [get j z] at h
    obtain ⟨v, q, t'⟩ := R.im j d h
    exact ⟨v, q, Rp.mono hs _ _ t'⟩
  · by_cases z : j = i
    · subst z
      exact ⟨a, ha⟩
    · rw [get j z] at h
      exact R.has j d h
  · obtain ⟨o, q, l⟩ := R.bt b h
    exact ⟨o, kp b o (fun z => R.nb i a ha (by rw [← z]; exact h)) q, l⟩
  · have z : j ≠ i := fun z => by
      subst z
      rw [hi] at h
      cases h
    exact ⟨by rw [get j z]; exact h, rfl⟩
theorem tEL_nil {σ : L2.St} {H : Hp} {Q : List V → Hp → Prop} (h : tEL F C K [] σ H Q) : Q [] H := by
  obtain ⟨s, Z, B, rs, s', R, e, k⟩ := h
  simp only [Ev.evalL, Option.some.injEq, Prod.mk.injEq] at e
  obtain ⟨rfl, rfl⟩ := e
  exact k [] H Z (.refl R) rfl
theorem call_pe {es : List Expr} {irs : List Ex} {x : Str} {n : Nat} {fn : Fn} {p pos : Pos} (hl : SndL F C X es irs) (hS : FnS X x n fn) (hG : Gl X x) (hd : (x == ("__debug__" : Str)) = false) :
    PE X (.Call (.Name x p) es [] pos) (fun σ H Q => tEL F C X.K irs σ H fun vs H1 => spF X.K n fn vs H1 Q (fun _ _ _ => False)) := by
  obtain ⟨k, fa, fd, ps, ok, hr, hm, hk, hb⟩ := hS.ex
  cases hl with
  | nil =>
    refine PE.imp (pe_call0 ok hr hG hm hk hb .nil pass0 hd) fun σ H Q q => ?_
    exact tEL_nil q
  | cons h t =>
    refine PE.imp (pe_call ok hr hG hm hk hb .nil pass0 (SndL.cons h t).pa hd (h.fn.star _ _) (t.star _ _)) fun σ H Q q => ?_
    obtain ⟨s, Z, B, rs, s', R, e, k⟩ := q
    refine ⟨s, Z, B, rs, s', R, e, fun vs H' Z' g o => ?_⟩
    show spF X.K n fn (vs ++ []) H' Q _
    rw [List.append_nil]
    exact k vs H' Z' g o
/-- a call of a def that changes nothing -/
theorem snd_call {es : List Expr} {irs : List Ex} {x : Str} {f n : Nat} {p pos : Pos} (hl : SndL F C X es irs) (hS : FnS X x n (F f)) (hG : Gl X x) (hdb : (x == ("__debug__" : Str)) = false) (hn : irs.length = n) : Snd F C X (.Call (.Name x p) es [] pos) (.call f irs) := by
  refine snd_val (PE.imp (call_pe hl hS hG hdb) fun σ H Q h => ?_) (by intro _; rfl) (fun _ _ _ z => nomatch z) trivial
  obtain ⟨s, Z, B, r, s', R, e, k⟩ := h
  simp only [Ev.eval] at e
  split at e
  · rename_i rs s1 ea
    split at e
    · cases e
    · rename_i hio
      have hio : (F f).io = false ∧ (F f).fr = false := by simpa using hio
      split at e
      · rename_i d p' es
        split at e
        · rename_i hc
          cases e
          have hrs : rs.length = n := by
            have := evalL_len ea
            omega
          refine ⟨s, Z, B, rs, _, R, ea, fun vs H1 Z1 g1 o1 => ⟨by rw [o1.len]; exact hrs, ?_⟩⟩
          rw [Bool.or_eq_true] at hc
          by_cases hi : rs.all isIm = true
          · refine ⟨hd Z1 B, _, d, p', g1.rel.hide, es, .inl ⟨hio.1, hio.2, o1.im hi, fun v H' q sm => ?_⟩⟩
            exact k v H' Z1 (g1.trans R (Gr.grow g1.rel sm)) q
          · have hf : flat d = true := by
              rcases hc with hc | hc
              · exact absurd hc hi
              · exact hc
            refine ⟨fun _ => False, _, d, p', (fun _ z => z.elim), es, .inl ⟨hio.1, hio.2, by rw [hid_none]; exact o1.rp, fun v H' q sm => ?_⟩⟩
            rw [hid_none] at q
            have g2 := Gr.grow g1.rel sm
            exact k v H' Z1 (g1.trans R g2) (Rp.flat g2.rel.hide _ _ hf q)
        · cases e
      · cases e
  · cases e
/-- a call of a def that changes the list of slot i, its first argument -/
theorem snd_calli {es : List Expr} {irs : List Ex} {x y : Str} {f i n : Nat} {p p2 pos : Pos} (hN : X.N[i]? = some y) (hv : Vis X.env.scope y) (hyd : (y == ("__debug__" : Str)) = false) (hcd : (y == ("__classdict__" : Str)) = false)
    (hl : SndL F C X es irs) (hS : FnS X x n (F f)) (hG : Gl X x) (hdb : (x == ("__debug__" : Str)) = false) (hn : irs.length + 1 = n) : Snd F C X (.Call (.Name x p) (.Name y p2 :: es) [] pos) (.calli f i irs) := by
  obtain ⟨k0, fa, fd, ps, ok, hr, hm, hk, hb⟩ := hS.ex
  have hpa : PA X (.Name y p2 :: es) (tCons (tVar i) (tEL F C X.K irs)) := pa_cons (pe_var hN hv hyd hcd) hl.pa
  refine snd_val (PE.imp (pe_call ok hr hG hm hk hb .nil pass0 hpa hdb rfl (hl.star _ _)) fun σ H Q h => ?_) (by intro _; rfl) (fun _ _ _ z => nomatch z) trivial
  obtain ⟨s, Z, B, r, s', R, e, k⟩ := h
  simp only [Ev.eval] at e
  split at e
  · rename_i d0 hi0
    obtain ⟨a0, hz0, hσ0, _⟩ := R.at (.inl hi0)
    split at e
    · rename_i rs s1 ea
      split at e
      · rename_i p hi
        split at e
        · rename_i hc
          simp only [Bool.and_eq_true, Bool.not_eq_true'] at hc
          split at e
          · rename_i d p' es
            cases e
            have hrs : rs.length + 1 = n := by
              have := evalL_len ea
              omega
            refine ⟨_, hσ0, s, Z, B, rs, s1, R, ea, fun vs H1 Z1 g1 o1 => ⟨by show (_ :: (vs ++ [])).length = n; rw [List.append_nil, List.length_cons, o1.len]; exact hrs, ?_⟩⟩
            obtain ⟨a1, hz1, hσ1, t1⟩ := g1.rel.at (.inl hi)
            rw [hσ0] at hσ1
            cases hσ1
            refine ⟨hd Z1 B, _, d, p', g1.rel.hide, es, .inr (.inr ⟨hc.1.1, hc.1.2, a0, vs, p, _, by show (_ :: (vs ++ [])) = _; rw [List.append_nil], .inl ⟨i, hz1⟩, rfl, t1, o1.im hc.2, fun v H' q t kp _ => ?_⟩)⟩
            exact k v H' Z1 (g1.trans R (Gr.put g1.rel hi hz1 kp t)) q
          · cases e
        · cases e
      · cases e
    · cases e
  · cases e

/-! ### built-ins -/
/-- a built-in function of one argument, by its rule -/
theorem tE1 {ir : V → Hp → VK → Prop} {s s1 : Stt} {Z : Nat → Option Addr} {B : Addr → Prop} {ra : Rs} (R : Rel K H σ s Z B) (ha : Ev.eval F C ia s = some (ra, s1)) (h : ∀ x H1 Z1, Gr K B σ H s Z H1 s1 Z1 → ROk K H H1 Z1 B ra x → ir x H1 Q) : tE F C K ia σ H (fun x H1 => ir x H1 Q) :=
  ⟨s, Z, B, ra, s1, R, ha, fun x H1 Z1 g o => h x H1 Z1 g o⟩
theorem boolsD_rp : ∀ {ds : List PyData} {l : List Bool} {vs : List V}, boolsD ds = some l → RpL K H ds vs → vs = l.map V.bl
  | [], _, _, e, h => by cases e; simp only [RpL] at h; exact h
  | d :: ds, l, vs, e, h => by
    cases d with
    | bool b =>
      simp only [boolsD, Option.map_eq_some_iff] at e
      obtain ⟨l', e, rfl⟩ := e
      simp only [RpL] at h
      obtain ⟨v, r, rfl, h1, h2⟩ := h
      rw [rp_bl h1, boolsD_rp e h2]
      rfl
    | _ => cases e
theorem textsD_rp : ∀ {ds : List PyData} {l : List Str} {vs : List V}, textsD ds = some l → RpL K H ds vs → vs = l.map V.str
  | [], _, _, e, h => by cases e; simp only [RpL] at h; exact h
  | d :: ds, l, vs, e, h => by
    cases d with
    | str b =>
      simp only [textsD, Option.map_eq_some_iff] at e
      obtain ⟨l', e, rfl⟩ := e
      simp only [RpL] at h
      obtain ⟨v, r, rfl, h1, h2⟩ := h
      rw [rp_str h1, textsD_rp e h2]
      rfl
    | _ => cases e
theorem numsD_rp : ∀ {ds : List PyData} {l : List Int} {vs : List V}, numsD ds = some l → RpL K H ds vs → vs = l.map V.int
  | [], _, _, e, h => by cases e; simp only [RpL] at h; exact h
  | d :: ds, l, vs, e, h => by
    cases d with
    | int b =>
      simp only [numsD, Option.map_eq_some_iff] at e
      obtain ⟨l', e, rfl⟩ := e
      simp only [RpL] at h
      obtain ⟨v, r, rfl, h1, h2⟩ := h
      rw [rp_int h1, numsD_rp e h2]
      rfl
    | _ => cases e
theorem bn_of (W : Wd X G F C) {x : Str} (h : x ∈ bltns) : X.mg x = none := W.bn x h
theorem boot_sum' : bootBuiltins "sum" = some (.builtin "sum") := by decide +kernel
theorem boot_list' : bootBuiltins "list" = some (.type "list") := by decide +kernel
theorem boot_tuple' : bootBuiltins "tuple" = some (.type "tuple") := by decide +kernel
theorem boot_int' : bootBuiltins "int" = some (.type "int") := by decide +kernel
theorem boot_max' : bootBuiltins "max" = some (.builtin "max") := by decide +kernel
theorem boot_str' : bootBuiltins "str" = some (.type "str") := by decide +kernel
theorem boot_bool' : bootBuiltins "bool" = some (.type "bool") := by decide +kernel
def b1Name : B1 → Str
  | .len => "len" | .all => "all" | .any => "any" | .list => "list" | .tuple => "tuple" | .int => "int" | .sum => "sum" | .sorted => "sorted" | .str => "str"
theorem b1_in (b : B1) : b1Name b ∈ bltns := by cases b <;> decide +kernel
theorem snd_b1 (W : Wd X G F C) {b : B1} {p pos : Pos} (ha : Snd F C X a ia) (hG : Gl X (b1Name b)) : Snd F C X (.Call (.Name (b1Name b) p) [a] [] pos) (.b1 b ia) := by
  have hm := bn_of W (b1_in b)
  have hpa : PA X [a] (tCons (tE F C X.K ia) tNil) := pa_cons ha.pe pa_nil (ha.fn.star _ _)
  refine snd_val ⟨fun pins s0 σ H Q I h => ?_⟩ (by intro _; rfl) (fun _ _ _ z => nomatch z) trivial
  obtain ⟨s, Z, B, r, s', R, e, k⟩ := h
  simp only [Ev.eval] at e
  cases ea : Ev.eval F C ia s with
  | none => rw [ea] at e; cases e
  | some pa =>
    obtain ⟨ra, s1⟩ := pa
    rw [ea] at e
    simp only [Option.map_eq_some_iff] at e
    obtain ⟨r0, e0, e⟩ := e
    cases e
    have goB : ∀ {id : String} {ir : List V → Hp → VK → Prop}, CallR X (.builtin id) ir → bootBuiltins (b1Name b) = some (.builtin id) → (b1Name b ≠ "__name__") → ((b1Name b == ("__debug__" : Str)) = false) → (∀ x H2 Z2, Gr X.K B σ H s Z H2 s' Z2 → ROk X.K H H2 Z2 B ra x → ir [x] H2 Q) →
        wpAny (model X.prog X.w) X.A (PySem.eval (.Call (.Name (b1Name b) p) [a] [] pos) X.env) (EP X pins σ Q) X.xe s0 := fun {id ir} ho hv hn hdb q =>
      (pe_callB ho hG hm hv hpa hn hdb (ha.fn.star _ _) rfl).run pins s0 σ H Q I (tE1 (ir := fun x H Q => ir [x] H Q) R ea q)
    have goT : ∀ {id : String} {ir : List V → Hp → VK → Prop}, CallR X (.type id) ir → bootBuiltins (b1Name b) = some (.type id) → (b1Name b ≠ "__name__") → ((b1Name b == ("__debug__" : Str)) = false) → (∀ x H2 Z2, Gr X.K B σ H s Z H2 s' Z2 → ROk X.K H H2 Z2 B ra x → ir [x] H2 Q) →
        wpAny (model X.prog X.w) X.A (PySem.eval (.Call (.Name (b1Name b) p) [a] [] pos) X.env) (EP X pins σ Q) X.xe s0 := fun {id ir} ho hv hn hdb q =>
      (pe_callTy ho hG hm hv hpa hn hdb (ha.fn.star _ _) rfl).run pins s0 σ H Q I (tE1 (ir := fun x H Q => ir [x] H Q) R ea q)
    cases b with
    | len =>
      simp only [b1D, Option.map_eq_some_iff] at e0
      obtain ⟨n, e0, rfl⟩ := e0
      refine goB call_len PySem.boot_len (by decide +kernel) (by decide +kernel) fun x H2 Z2 g o => ⟨x, n, rfl, ?_, k _ H2 Z2 g (ROk.of_im rp_of_int)⟩
      unfold lenD at e0
      split at e0
      · rename_i ds hda
        cases e0
        obtain ⟨q, vs, e1, q1, t1⟩ := o.list hda
        subst e1
        exact .inl ⟨vs, q1, t1.len⟩
      · rename_i ds hda
        cases e0
        obtain ⟨q, vs, e1, q1, t1⟩ := o.tuple hda
        subst e1
        exact .inr ⟨vs, q1, t1.len⟩
      · rename_i z hda
        split at e0
        · rename_i hz
          cases e0
          have h1 := o.rp
          rw [hda] at h1
          rw [rp_str h1]
          exact ⟨hz, rfl⟩
        · cases e0
      · cases e0
    | all =>
      simp only [b1D] at e0
      split at e0
      · rename_i ds hda
        simp only [Option.map_eq_some_iff] at e0
        obtain ⟨l, e0, rfl⟩ := e0
        refine goB (cr_all W.calm) PyProof.Rows.boot_all (by decide +kernel) (by decide +kernel) fun x H2 Z2 g o => ?_
        obtain ⟨q, vs, e1, q1, t1⟩ := o.list hda
        rw [boolsD_rp e0 t1] at q1
        exact ⟨q, l, by rw [e1], q1, k _ H2 Z2 g (ROk.of_im rp_of_bl)⟩
      · cases e0
    | any =>
      simp only [b1D] at e0
      split at e0
      · rename_i ds hda
        simp only [Option.map_eq_some_iff] at e0
        obtain ⟨l, e0, rfl⟩ := e0
        refine goB (cr_any W.calm) PyProof.Rows.boot_any (by decide +kernel) (by decide +kernel) fun x H2 Z2 g o => ?_
        obtain ⟨q, vs, e1, q1, t1⟩ := o.list hda
        rw [boolsD_rp e0 t1] at q1
        exact ⟨q, l, by rw [e1], q1, k _ H2 Z2 g (ROk.of_im rp_of_bl)⟩
      · cases e0
    | list =>
      simp only [b1D] at e0
      split at e0
      · rename_i ds hda
        cases e0
        refine goT call_list_of boot_list' (by decide +kernel) (by decide +kernel) fun x H2 Z2 g o => ?_
        obtain ⟨q, vs, e1, q1, t1⟩ := o.list hda
        exact ⟨q, vs, by rw [e1], .inl q1, fun p hp => k _ _ Z2 (g.trans R (Gr.lay g.rel hp)) (fresh_list g.rel hp (g.old p hp) t1)⟩
      · rename_i ds hda
        cases e0
        refine goT call_list_of boot_list' (by decide +kernel) (by decide +kernel) fun x H2 Z2 g o => ?_
        obtain ⟨q, vs, e1, q1, t1⟩ := o.tuple hda
        exact ⟨q, vs, by rw [e1], .inr q1, fun p hp => k _ _ Z2 (g.trans R (Gr.lay g.rel hp)) (fresh_list g.rel hp (g.old p hp) t1)⟩
      · cases e0
    | tuple =>
      simp only [b1D] at e0
      split at e0
      · rename_i ds hda
        cases e0
        refine goT call_tuple_of boot_tuple' (by decide +kernel) (by decide +kernel) fun x H2 Z2 g o => ?_
        obtain ⟨q, vs, e1, q1, t1⟩ := o.list hda
        exact ⟨q, vs, by rw [e1], .inl ⟨q1, fun p hp => k _ _ Z2 (g.trans R (Gr.lay g.rel hp)) (fresh_tuple g.rel hp t1)⟩⟩
      · rename_i ds hda
        cases e0
        refine goT call_tuple_of boot_tuple' (by decide +kernel) (by decide +kernel) fun x H2 Z2 g o => ?_
        obtain ⟨q, vs, e1, q1, t1⟩ := o.tuple hda
        refine ⟨q, vs, by rw [e1], .inr ⟨q1, ?_⟩⟩
        subst e1
        refine k _ H2 Z2 g ?_
        have i1 : isIm ra = true := by
          cases hk : ra.k with
          | bo i =>
            obtain ⟨rk, rd⟩ := ra
            simp only at hk hda
            subst hk hda
            obtain ⟨_, _, _, t⟩ := o
            exact t.elim
          | _ => simp [isIm, hk]
        have := o.im i1
        rw [hda] at this
        exact this
      · cases e0
    | int =>
      simp only [b1D] at e0
      split at e0
      · rename_i i hda
        cases e0
        refine goT call_int1 boot_int' (by decide +kernel) (by decide +kernel) fun x H2 Z2 g o => ?_
        have h1 := o.rp
        rw [hda] at h1
        rw [rp_int h1]
        exact .inl ⟨i, rfl, k _ H2 Z2 g (ROk.of_im rp_of_int)⟩
      · cases e0
    | sum =>
      simp only [b1D] at e0
      split at e0
      · rename_i ds hda
        simp only [Option.map_eq_some_iff] at e0
        obtain ⟨l, e0, rfl⟩ := e0
        refine goB (cr_sum W.calm) boot_sum' (by decide +kernel) (by decide +kernel) fun x H2 Z2 g o => ?_
        obtain ⟨q, vs, e1, q1, t1⟩ := o.list hda
        rw [numsD_rp e0 t1] at q1
        exact ⟨q, l, by rw [e1], q1, k _ H2 Z2 g (ROk.of_im rp_of_int)⟩
      · cases e0
    | sorted => cases e0
    | str => cases e0
def b2Name : B2 → Str
  | .min => "min" | .max => "max"
theorem b2_in (b : B2) : b2Name b ∈ bltns := by cases b <;> decide +kernel
theorem snd_b2 (W : Wd X G F C) {o : B2} {p pos : Pos} (ha : Snd F C X a ia) (hb : Snd F C X b ib) (hG : Gl X (b2Name o)) : Snd F C X (.Call (.Name (b2Name o) p) [a, b] [] pos) (.b2 o ia ib) := by
  have hm := bn_of W (b2_in o)
  have hpa : PA X [a, b] (tCons (tE F C X.K ia) (tCons (tE F C X.K ib) tNil)) := pa_cons ha.pe (pa_cons hb.pe pa_nil (hb.fn.star _ _)) (ha.fn.star _ _)
  have hst : (backTo pos (starEach [b] X.env)).any (·.1) = false := by
    rw [hb.fn.star]
    rfl
  refine snd_val ⟨fun pins s0 σ H Q I h => ?_⟩ (by intro _; rfl) (fun _ _ _ z => nomatch z) trivial
  obtain ⟨s, Z, B, r, s', R, e, k⟩ := h
  simp only [Ev.eval] at e
  cases ea : Ev.eval F C ia s with
  | none => rw [ea] at e; cases e
  | some pa =>
    obtain ⟨ra, s1⟩ := pa
    rw [ea] at e
    simp only at e
    cases eb : Ev.eval F C ib (lockR ra s1) with
    | none => rw [eb] at e; cases e
    | some pb =>
      obtain ⟨rb, s2⟩ := pb
      rw [eb] at e
      simp only [Option.map_eq_some_iff] at e
      obtain ⟨r0, e0, e⟩ := e
      cases e
      unfold b2D at e0
      split at e0
      · rename_i i j hda hdb
        cases e0
        refine (pe_callB (call_min2 W.calm) hG hm PyProof.Rows.boot_min hpa (by decide +kernel) (by decide +kernel) (ha.fn.star _ _) hst).run pins s0 σ H Q I ?_
        refine tE2 (ir := fun x y H Q => ∃ i j, [x, y] = [V.int i, V.int j] ∧ Q (.int (if j < i then j else i)) H) R ea eb fun x y H2 Z2 g o1 o2 => ?_
        have h1 := o1.rp; have h2 := o2.rp
        rw [hda] at h1; rw [hdb] at h2
        exact ⟨i, j, by rw [rp_int h1, rp_int h2], k _ H2 Z2 g (ROk.of_im rp_of_int)⟩
      · rename_i i j hda hdb
        cases e0
        refine (pe_callB (call_max2 W.calm) hG hm boot_max' hpa (by decide +kernel) (by decide +kernel) (ha.fn.star _ _) hst).run pins s0 σ H Q I ?_
        refine tE2 (ir := fun x y H Q => ∃ i j, [x, y] = [V.int i, V.int j] ∧ Q (.int (if j > i then j else i)) H) R ea eb fun x y H2 Z2 g o1 o2 => ?_
        have h1 := o1.rp; have h2 := o2.rp
        rw [hda] at h1; rw [hdb] at h2
        exact ⟨i, j, by rw [rp_int h1, rp_int h2], k _ H2 Z2 g (ROk.of_im rp_of_int)⟩
      · cases e0

/-! ### isinstance -/
def tyD : PyData → String
  | .none => "NoneType" | .bool _ => "bool" | .int _ => "int" | .str _ => "str" | .list _ => "list" | .tuple _ => "tuple" | .dict _ => "dict"
def tyS : Ty → String
  | .str => "str" | .int => "int" | .bool => "bool" | .tuple => "tuple" | .list => "list"
def tyN : Ty → Str
  | .str => "str" | .int => "int" | .bool => "bool" | .tuple => "tuple" | .list => "list"
theorem kit_all (d : PyData) (t : Ty) : kitB (tyD d) (tyS t) = some (isiD d t) := by
  cases d <;> cases t <;> simp only [tyD, tyS, isiD] <;> decide +kernel
theorem tyN_in (t : Ty) : tyN t ∈ bltns := by cases t <;> decide +kernel
theorem tyN_boot (t : Ty) : bootBuiltins (tyN t) = some (.type (tyS t)) := by cases t <;> decide +kernel
theorem tyN_ne (t : Ty) : tyN t ≠ "__name__" ∧ (tyN t == ("__debug__" : Str)) = false := by cases t <;> exact ⟨by decide +kernel, by decide +kernel⟩
theorem tyX_of {d : PyData} {x : V} {H : Hp} (h : Rp K H d x) : TyX K H x (.type (tyD d)) := by
  cases d with
  | none => rw [rp_non h]; exact .base .non
  | bool b => rw [rp_bl h]; exact .base (.bl b)
  | int b => rw [rp_int h]; exact .base (.int b)
  | str b => rw [rp_str h]; exact .base (.str b)
  | list ds =>
    simp only [Rp] at h
    obtain ⟨a, vs, e, q, _⟩ := h
    subst e
    rcases q with (q | ⟨o, q⟩) | ⟨o, its, n, hk, hc, _⟩
    · exact .base (.lst q)
    · exact .base (.frz q)
    · exact .kList hk hc
  | tuple ds =>
    simp only [Rp] at h
    obtain ⟨a, vs, e, q, _⟩ := h
    subst e
    rcases q with (q | ⟨o, q⟩) | ⟨o, its, n, hk, hc, _⟩
    · exact .base (.tup q)
    · exact .fTuple q
    · exact .kTuple hk hc
  | dict ds =>
    simp only [Rp] at h
    obtain ⟨a, e, h⟩ := h
    subst e
    rcases h with ⟨ks, q, _⟩ | ⟨ks, q, _⟩
    · exact .base (.dK q)
    · exact .base (.dT q)
theorem snd_isi (W : Wd X G F C) {t : Ty} {p p2 pos : Pos} (ha : Snd F C X a ia) (hG : Gl X "isinstance") (hT : Gl X (tyN t)) : Snd F C X (.Call (.Name "isinstance" p) [a, .Name (tyN t) p2] [] pos) (.isi ia t) := by
  have hm := bn_of W (x := "isinstance") (by decide +kernel)
  have hmt := bn_of W (tyN_in t)
  have hpt : PE X (.Name (tyN t) p2) (tC (.ty (tyS t))) := pe_bltn hT hmt (tyN_boot t) rfl (tyN_ne t).1 (tyN_ne t).2
  have hpa : PA X [a, .Name (tyN t) p2] (tCons (tE F C X.K ia) (tCons (tC (.ty (tyS t))) tNil)) := pa_cons ha.pe (pa_cons hpt pa_nil) (ha.fn.star _ _)
  refine snd_val (PE.imp (pe_callB call_isi hG hm PyProof.Rows.boot_isinstance hpa (by decide +kernel) (by decide +kernel) (ha.fn.star _ _) rfl) fun σ H Q h => ?_) (by intro _; rfl) (fun _ _ _ z => nomatch z) trivial
  obtain ⟨s, Z, B, r, s', R, e, k⟩ := h
  simp only [Ev.eval] at e
  cases ea : Ev.eval F C ia s with
  | none => rw [ea] at e; cases e
  | some pa =>
    obtain ⟨ra, s1⟩ := pa
    rw [ea] at e
    simp only [Option.some.injEq, Prod.mk.injEq] at e
    obtain ⟨rfl, rfl⟩ := e
    refine ⟨s, Z, B, ra, _, R, ea, fun x H1 Z1 g o => ?_⟩
    exact ⟨x, .ty (tyS t), .type (tyD ra.d), .type (tyS t), isiD ra.d t, rfl, .ty _, tyX_of o.rp, kit_ty (kit_all ra.d t), k _ H1 Z1 g (ROk.of_im rp_of_bl)⟩

/-! ### methods of texts -/
def noCall : Expr → Bool
  | .Call _ _ _ _ => false
  | _ => true
theorem base_of {o : Expr} (h : noCall o = true) (f : Str) (env : PySem.Env) (w : Sem Value) : attributeBase o f env w = w := by
  cases o <;> first | rfl | cases h
theorem snd_join {apos pos : Pos} (ha : Snd F C X a ia) (hb : Snd F C X b ib) (hnc : noCall a = true) (hl : (apos.endLine == pos.line) = true) : Snd F C X (.Call (.Attribute a "join" apos) [b] [] pos) (.mt .join ia ib) := by
  refine snd_val (PE.imp (pe_join ha.pe hb.pe (hb.fn.star _ _) (base_of hnc _ _ _) hl) fun σ H Q h => ?_) (by intro _; rfl) (fun _ _ _ z => nomatch z) trivial
  obtain ⟨s, Z, B, r, s', R, e, k⟩ := h
  simp only [Ev.eval] at e
  cases ea : Ev.eval F C ia s with
  | none => rw [ea] at e; cases e
  | some pa =>
    obtain ⟨ra, s1⟩ := pa
    rw [ea] at e
    simp only at e
    cases eb : Ev.eval F C ib (lockR ra s1) with
    | none => rw [eb] at e; cases e
    | some pb =>
      obtain ⟨rb, s2⟩ := pb
      rw [eb] at e
      simp only [Option.map_eq_some_iff] at e
      obtain ⟨r0, e0, e⟩ := e
      cases e
      unfold mtD at e0
      split at e0
      · rename_i z ds _ hda hdb
        simp only [Option.bind_eq_some_iff] at e0
        obtain ⟨ys, e0, e1⟩ := e0
        split at e1
        · rename_i hz
          cases e1
          refine ⟨s, Z, B, ra, s1, R, ea, fun x H1 Z1 g1 o1 => ?_⟩
          have h1 := o1.rp
          rw [hda] at h1
          refine ⟨⟨z, rp_str h1⟩, _, Z1, B, rb, s2, g1.rel.lock ra, eb, fun y H2 Z2 g2 o2 => ?_⟩
          obtain ⟨q, vs, e3, q1, t1⟩ := o2.list hdb
          rw [textsD_rp e0 t1] at q1
          exact ⟨z, q, ys, rp_str h1, by rw [e3], .inl q1, hz, k _ H2 Z2 (g1.trans R (Gr.unlock ra g2)) (ROk.of_im rp_of_str)⟩
        · cases e1
      · rename_i hm _ _
        cases hm
      · cases e0
theorem snd_startswith {apos pos : Pos} (ha : Snd F C X a ia) (hb : Snd F C X b ib) (hnc : noCall a = true) (hl : (apos.endLine == pos.line) = true) : Snd F C X (.Call (.Attribute a "startswith" apos) [b] [] pos) (.mt .startswith ia ib) := by
  refine snd_val (PE.imp (pe_m1 PySem.F.slot_str_startswith PySem.F.type_str_startswith mt_startswith ha.pe hb.pe (hb.fn.star _ _) (base_of hnc _ _ _) hl) fun σ H Q h => ?_) (by intro _; rfl) (fun _ _ _ z => nomatch z) trivial
  obtain ⟨s, Z, B, r, s', R, e, k⟩ := h
  simp only [Ev.eval] at e
  cases ea : Ev.eval F C ia s with
  | none => rw [ea] at e; cases e
  | some pa =>
    obtain ⟨ra, s1⟩ := pa
    rw [ea] at e
    simp only at e
    cases eb : Ev.eval F C ib (lockR ra s1) with
    | none => rw [eb] at e; cases e
    | some pb =>
      obtain ⟨rb, s2⟩ := pb
      rw [eb] at e
      simp only [Option.map_eq_some_iff] at e
      obtain ⟨r0, e0, e⟩ := e
      cases e
      unfold mtD at e0
      split at e0
      · rename_i hm _ _
        cases hm
      · rename_i z y _ hda hdb
        cases e0
        refine ⟨s, Z, B, ra, s1, R, ea, fun x H1 Z1 g1 o1 => ?_⟩
        have h1 := o1.rp
        rw [hda] at h1
        refine ⟨⟨z, rp_str h1⟩, _, Z1, B, rb, s2, g1.rel.lock ra, eb, fun u H2 Z2 g2 o2 => ?_⟩
        have h2 := o2.rp
        rw [hdb] at h2
        exact ⟨z, y, rp_str h1, by rw [rp_str h2], k _ H2 Z2 (g1.trans R (Gr.unlock ra g2)) (ROk.of_im rp_of_bl)⟩
      · cases e0
end
end Ev

/-! Ev6: what is walked; targets; list comprehensions. -/
namespace Ev
open PySem PySem.Spec PyProof.Rows L2
section
variable {F : Nat → Fn} {C : Nat → PyData} {X : Cx} {G : Gm} {K : PySem.W.Frag} {a b c : Expr} {ia ib ic : Ex} {σ : L2.St} {H : Hp} {Q : VK}
/-! ### what is walked -/
theorem unlock_lock (r : Rs) (s : Stt) : unlockR r s (lockR r s) = s := by
  obtain ⟨k, d0⟩ := r
  cases k with
  | im => rfl
  | fr => rfl
  | bo i =>
    cases q : s[i]? with
    | none => simp only [unlockR, lockR, q]
    | some x =>
      cases x with
      | ow d =>
        simp only [unlockR, lockR, q]
        rw [List.set_set]
        apply List.ext_getElem?
        intro j
        by_cases hj : i = j
        · subst hj
          rw [List.getElem?_set_self (List.getElem?_eq_some_iff.mp q).1, q]
        · rw [List.getElem?_set_ne hj]
      | _ => simp only [unlockR, lockR, q]
/-- while what was locked stays -/
def Held (H : Hp) (s : Stt) (Z : Nat → Option Addr) (B : Addr → Prop) (Hx : Hp) : Prop := ∀ b o, H b = some o → (∀ (i : Nat) d, s[i]? = some (.ow d) → Z i ≠ some b) → ¬ B b → Hx b = some o
theorem ROk.notOwn {H0 : Hp} {s : Stt} {Z : Nat → Option Addr} {B : Addr → Prop} {r : Rs} {a : Addr} (h : ROk K H0 H Z B r (.ref a)) (hk : r.k ≠ .im) (R : Rel K H σ s Z B) : ∀ (i : Nat) d, (lockR r s)[i]? = some (.ow d) → Z i ≠ some a := by
  intro i d hi hz
  obtain ⟨rk, rd⟩ := r
  cases rk with
  | im => exact hk rfl
  | fr =>
    obtain ⟨a', e', z, _, _, _⟩ := h
    cases e'
    exact z i hz
  | bo j =>
    obtain ⟨a', e', z, _⟩ := h
    cases e'
    have hij := R.inj i j a hz z
    subst hij
    rcases lockR_get ⟨.bo i, rd⟩ s i with h | ⟨d', _, h1, h2⟩
    · have hk : s[i]? = some (.ow d) := by rw [← h]; exact hi
      unfold lockR at hi
      simp only [hk] at hi
      rw [List.getElem?_set_self (List.getElem?_eq_some_iff.mp hk).1] at hi
      cases hi
    · rw [h2] at hi
      cases hi
theorem ROk.listStay {H0 : Hp} {s : Stt} {Z : Nat → Option Addr} {B : Addr → Prop} {r : Rs} {v : V} {ds : List PyData} (h : ROk K H0 H Z B r v) (R : Rel K H σ s Z B) (e : r.d = .list ds) :
    ∃ a vs, v = .ref a ∧ SqL K H a vs ∧ RpL K (Hid H (Ev.hd Z B)) ds vs ∧ ∀ Hx, Held H (lockR r s) Z B Hx → SqL K Hx a vs := by
  by_cases hk : r.k = .im
  · obtain ⟨rk, rd⟩ := r
    simp only at hk e
    subst hk e
    have h : Rp K (Hid H (Ev.hd Z B)) (.list ds) v := h
    simp only [Rp] at h
    obtain ⟨a, vs, e1, q, t⟩ := h
    refine ⟨a, vs, e1, Same.seq hid_le q, t, fun Hx kp => ?_⟩
    rcases q with (q | ⟨o, q⟩) | q
    · obtain ⟨n, q⟩ := hid_some.mp q
      exact .inl (.inl (kp a _ q (fun i d _ z => n (.inl ⟨i, z⟩)) fun z => n (.inr z)))
    · obtain ⟨n, q⟩ := hid_some.mp q
      exact .inl (.inr ⟨o, kp a _ q (fun i d _ z => n (.inl ⟨i, z⟩)) fun z => n (.inr z)⟩)
    · exact .inr q
  · have h0 := h
    have h1 := h
    obtain ⟨rk, rd⟩ := r
    simp only at hk e
    subst e
    cases rk with
    | im => exact absurd rfl hk
    | fr =>
      obtain ⟨a, e1, _, nB, _, vs, q, t⟩ := h
      subst e1
      exact ⟨a, vs, rfl, SqL.of q, RpL.mono (hid_mono fun b z => .inr z) _ _ t, fun Hx kp => SqL.of (kp a _ q (h0.notOwn hk R) nB)⟩
    | bo i =>
      obtain ⟨a, e1, hz, vs, q, t⟩ := h
      subst e1
      exact ⟨a, vs, rfl, SqL.of q, t, fun Hx kp => SqL.of (kp a _ q (h0.notOwn hk R) (R.nb i a hz))⟩
theorem ROk.tupleStay {H0 : Hp} {s : Stt} {Z : Nat → Option Addr} {B : Addr → Prop} {r : Rs} {v : V} {ds : List PyData} (h : ROk K H0 H Z B r v) (R : Rel K H σ s Z B) (e : r.d = .tuple ds) :
    ∃ a vs, v = .ref a ∧ SqT K H a vs ∧ RpL K (Hid H (Ev.hd Z B)) ds vs ∧ ∀ Hx, Held H (lockR r s) Z B Hx → SqT K Hx a vs := by
  obtain ⟨rk, rd⟩ := r
  simp only at e
  subst e
  cases rk with
  | im =>
    have h : Rp K (Hid H (Ev.hd Z B)) (.tuple ds) v := h
    simp only [Rp] at h
    obtain ⟨a, vs, e1, q, t⟩ := h
    refine ⟨a, vs, e1, ?_, t, fun Hx kp => ?_⟩
    · rcases q with (q | ⟨o, q⟩) | q
      · exact .inl (.inl (hid_le _ _ q))
      · exact .inl (.inr ⟨o, hid_le _ _ q⟩)
      · exact .inr q
    · rcases q with (q | ⟨o, q⟩) | q
      · obtain ⟨n, q⟩ := hid_some.mp q
        exact .inl (.inl (kp a _ q (fun i d _ z => n (.inl ⟨i, z⟩)) fun z => n (.inr z)))
      · obtain ⟨n, q⟩ := hid_some.mp q
        exact .inl (.inr ⟨o, kp a _ q (fun i d _ z => n (.inl ⟨i, z⟩)) fun z => n (.inr z)⟩)
      · exact .inr q
  | fr =>
    obtain ⟨a, _, _, _, _, t⟩ := h
    exact t.elim
  | bo i =>
    obtain ⟨a, _, _, t⟩ := h
    exact t.elim
/-- the items are those of vs, one a turn; while what was locked stays, they are there -/
def iE (F : Nat → Fn) (C : Nat → PyData) (K : PySem.W.Frag) (k : Ik) (its : List Ex) : TI := fun σ H R => ∃ s Z B rs s' ds, Rel K H σ s Z B ∧ Ev.evalL F C its s = some (rs, s') ∧ itD k rs = some ds ∧
  ∀ (J : It) (H' : Hp) (Z' : Nat → Option Addr) (vs : List V) (P : Hp → Prop), Gr K B σ H s Z H' s' Z' → Walk J ds.length P (fun i Hx x Hx' => Hx' = Hx ∧ vs[i]? = some x) → RpL K (Hid H' (hd Z' B)) ds vs →
    (∀ Hx, Held H' (lockL rs s') Z' B Hx → P Hx) → R J H'
inductive SndI (F : Nat → Fn) (C : Nat → PyData) (X : Cx) : Expr → Ik → List Ex → Prop where
  | ex {e : Expr} {ir : Ex} (h : Snd F C X e ir) : SndI F C X e .ex [ir]
  | r1 {a : Expr} {ia : Ex} {p pos : Pos} (h : Snd F C X a ia) (hG : Gl X "range") : SndI F C X (.Call (.Name "range" p) [a] [] pos) .r1 [ia]
  | r2 {a b : Expr} {ia ib : Ex} {p pos : Pos} (h : Snd F C X a ia) (h2 : Snd F C X b ib) (hG : Gl X "range") : SndI F C X (.Call (.Name "range" p) [a, b] [] pos) .r2 [ia, ib]
theorem SndI.fine {e : Expr} {k : Ik} {its : List Ex} (h : SndI F C X e k its) : Fine e := by
  cases h with
  | ex h => exact h.fn
  | r1 h hG => trivial
  | r2 h h2 hG => trivial
theorem rng_rp {lo hi : Int} {H : Hp} : RpL K H (rng lo hi) ((List.range (hi - lo).toNat).map fun (k : Nat) => V.int (lo + (k : Int))) := by
  unfold rng
  generalize (List.range (hi - lo).toNat) = l
  induction l with
  | nil => exact .nil
  | cons a l ih => exact .cons rp_of_int ih
theorem rng_walk {lo : Int} {n : Nat} : Walk (Itr lo n) n (fun _ => True) (fun i Hx x Hx' => Hx' = Hx ∧ ((List.range n).map fun (k : Nat) => V.int (lo + (k : Int)))[i]? = some x) :=
  walk_range.mono (fun _ h => h) fun i H x H' hi _ y => by
    obtain ⟨y1, y2⟩ := y
    subst y1 y2
    exact ⟨rfl, by simp [hi]⟩
theorem signs_rp {z : List Nat} {H : Hp} : RpL K H (z.map fun c => PyData.str ⟨#[c]⟩) (z.map fun c => V.str ⟨#[c]⟩) := by
  induction z with
  | nil => exact .nil
  | cons a l ih => exact .cons rp_of_str ih
theorem pi_imp {tg e : Expr} {t t' : TI} (h : PI X tg e t) (k : ∀ σ H R, t' σ H R → t σ H R) : PI X tg e t' := ⟨fun pins s σ H R I q => h.run pins s σ H R I (k σ H R q)⟩
theorem SndI.pi (W : Wd X G F C) {e tg : Expr} {k : Ik} {its : List Ex} (h : SndI F C X e k its) : PI X tg e (iE F C X.K k its) := by
  cases h with
  | ex h =>
    rename_i ir
    refine ⟨fun pins s0 σ H R I q => ?_⟩
    obtain ⟨s, Z, B, rs, s', ds, R0, e0, ed, q⟩ := q
    simp only [Ev.evalL] at e0
    cases ea : Ev.eval F C ir s with
    | none => rw [ea] at e0; cases e0
    | some pa =>
      obtain ⟨r, s1⟩ := pa
      rw [ea] at e0
      simp only [Option.some.injEq, Prod.mk.injEq] at e0
      obtain ⟨rfl, rfl⟩ := e0
      rw [unlock_lock] at q
      have ed : itemsD r.d = some ds := ed
      unfold itemsD at ed
      split at ed
      · rename_i ds' hda
        cases ed
        refine (pi_list h.pe).run pins s0 σ H R I ⟨s, Z, B, r, s1, R0, ea, fun x H1 Z1 g o => ?_⟩
        obtain ⟨a, vs, e1, q1, t1, st⟩ := o.listStay g.rel hda
        refine ⟨a, e1, ⟨vs, q1⟩, q (Itl X.K a) H1 Z1 vs _ g ?_ t1 st⟩
        rw [t1.len]
        exact walk_list
      · rename_i ds' hda
        cases ed
        refine (pi_tup h.pe).run pins s0 σ H R I ⟨s, Z, B, r, s1, R0, ea, fun x H1 Z1 g o => ?_⟩
        obtain ⟨a, vs, e1, q1, t1, st⟩ := o.tupleStay g.rel hda
        refine ⟨a, e1, ⟨vs, q1⟩, q (Itt X.K a) H1 Z1 vs _ g ?_ t1 st⟩
        rw [t1.len]
        exact walk_tup
      · rename_i z hda
        cases ed
        refine (pi_str h.pe).run pins s0 σ H R I ⟨s, Z, B, r, s1, R0, ea, fun x H1 Z1 g o => ?_⟩
        have h1 := o.rp
        rw [hda] at h1
        refine ⟨z, rp_str h1, q (Its z) H1 Z1 (z.cps.toList.map fun c => V.str ⟨#[c]⟩) (fun _ => True) g ?_ signs_rp (fun _ _ => trivial)⟩
        rw [List.length_map, Array.length_toList]
        refine walk_str.mono (fun _ h => h) fun i H x H' hi _ y => ?_
        obtain ⟨y1, c, y2, y3⟩ := y
        subst y1 y3
        refine ⟨rfl, ?_⟩
        rw [List.getElem?_map, Array.getElem?_toList, y2]
        rfl
      · cases ed
  | r1 h hG =>
    rename_i a ia p pos
    refine pi_imp (pi_range1 hG (W.bn _ (by decide +kernel)) (pa_cons h.pe pa_nil (h.fn.star _ _)) (hs := h.fn.star _ _)) fun σ H R q => ?_
    obtain ⟨s, Z, B, rs, s', ds, R0, e0, ed, q⟩ := q
    simp only [Ev.evalL] at e0
    cases ea : Ev.eval F C ia s with
    | none => rw [ea] at e0; cases e0
    | some pa =>
      obtain ⟨r, s1⟩ := pa
      rw [ea] at e0
      simp only [Option.some.injEq, Prod.mk.injEq] at e0
      obtain ⟨rfl, rfl⟩ := e0
      rw [unlock_lock] at q
      obtain ⟨rk, rd⟩ := r
      unfold itD at ed
      split at ed
      · rename_i hk _
        cases hk
      · rename_i kd j _ hrs
        cases hrs
        split at ed
        · rename_i hj
          cases ed
          refine ⟨s, Z, B, _, s1, R0, ea, fun x H1 Z1 g o => ?_⟩
          refine ⟨j, by rw [rp_int o.rp], hj.1, hj.2, q (Itr 0 j.toNat) H1 Z1 _ _ g ?_ rng_rp (fun _ _ => trivial)⟩
          unfold rng
          rw [List.length_map, List.length_range, Int.sub_zero]
          exact rng_walk
        · cases ed
      · rename_i hk _
        cases hk
      · cases ed
  | r2 h h2 hG =>
    rename_i a b ia ib p pos
    refine pi_imp (pi_range2 hG (W.bn _ (by decide +kernel)) (pa_cons h.pe (pa_cons h2.pe pa_nil (h2.fn.star _ _)) (h.fn.star _ _)) (hs := (h.fn.star _ _).trans (congrArg _ (h2.fn.star _ _))) (hs2 := h2.fn.star _ _)) fun σ H R q => ?_
    obtain ⟨s, Z, B, rs, s', ds, R0, e0, ed, q⟩ := q
    simp only [Ev.evalL] at e0
    cases ea : Ev.eval F C ia s with
    | none => rw [ea] at e0; cases e0
    | some pa =>
      obtain ⟨r, s1⟩ := pa
      rw [ea] at e0
      simp only at e0
      cases eb : Ev.eval F C ib (lockR r s1) with
      | none => rw [eb] at e0; cases e0
      | some pb =>
        obtain ⟨r2, s2⟩ := pb
        rw [eb] at e0
        simp only [Option.some.injEq, Prod.mk.injEq] at e0
        obtain ⟨rfl, rfl⟩ := e0
        rw [unlock_lock] at q
        unfold itD at ed
        split at ed
        · rename_i hk _
          cases hk
        · rename_i hk _
          cases hk
        · rename_i _ i _ j _ hrs
          cases hrs
          split at ed
          · rename_i hj
            cases ed
            refine ⟨s, Z, B, _, s1, R0, ea, fun x H1 Z1 g1 o1 => ?_⟩
            refine ⟨_, Z1, B, _, s2, g1.rel.lock _, eb, fun y H2 Z2 g2 o2 => ?_⟩
            refine ⟨i, j, by rw [rp_int o1.rp, rp_int o2.rp], hj, q (Itr i (j - i).toNat) H2 Z2 _ _ (g1.trans R0 (Gr.unlock _ g2)) ?_ rng_rp (fun _ _ => trivial)⟩
            unfold rng
            rw [List.length_map, List.length_range]
            exact rng_walk
          · cases ed
        · cases ed

/-! ### targets -/
theorem pin_ne {s : Stt} {Z : Nat → Option Addr} {B : Addr → Prop} {i : Nat} {b : Addr} (R : Rel K H σ s Z B) (hp : pinned s i = false) (h2 : ∀ d, s[i]? ≠ some (.lk d)) (z : Z 0 = some b) : ¬ 0 = i := fun e => by
  subst e
  obtain ⟨d, q, _⟩ := R.own 0 b z
  rcases q with q | q
  · cases s with
    | nil => cases q
    | cons x t =>
      rw [List.getElem?_cons_zero] at q
      cases q
      cases hp
  · exact h2 d q
theorem Gr.bind1 {s t : Stt} {Z : Nat → Option Addr} {B : Addr → Prop} {i : Nat} {d : PyData} {v : V} (R : Rel K H σ s Z B) (e : putS s i (.im d) = some t) (h : Rp K (Hid H (hd Z B)) d v) :
    ∃ Z', Gr K B (σ.set i (some v)) H s Z H t Z' ∧ (∀ b, hd Z' B b → hd Z B b) := by
  unfold putS at e
  have key : pinned s i = false → s[i]? ≠ none → (∀ d, s[i]? ≠ some (.lk d)) → t = s.set i (.im d) → ∃ Z', Gr K B (σ.set i (some v)) H s Z H t Z' ∧ (∀ b, hd Z' B b → hd Z B b) := by
    intro hp h1 h2 ht
    subst ht
    have his : i < s.length := by
      cases q : s[i]? with
      | none => exact absurd q h1
      | some x => exact (List.getElem?_eq_some_iff.mp q).1
    have hiσ : i < σ.length := by rw [← R.ls]; exact his
    have get : ∀ j, j ≠ i → (s.set i (Sl.im d))[j]? = s[j]? := fun j hj => List.getElem?_set_ne (Ne.symm hj)
    have getσ : ∀ j, j ≠ i → (σ.set i (some v))[j]? = σ[j]? := fun j hj => List.getElem?_set_ne (Ne.symm hj)
    have hle : ∀ b, hd (fun j => if j = i then none else Z j) B b → hd Z B b := by
      rintro b (⟨j, hj⟩ | hb)
      · by_cases e : j = i
        · simp only [if_pos e] at hj; cases hj
        · simp only [if_neg e] at hj; exact .inl ⟨j, hj⟩
      · exact .inr hb
    have hs := hid_mono (H := H) hle
    refine ⟨fun j => if j = i then none else Z j, ⟨⟨by rw [List.length_set, List.length_set]; exact R.ls, fun j k b q1 q2 => ?_, fun j b q => ?_, fun j b q => ?_, fun j d' q => ?_, fun j d' q => ?_, R.bt⟩, fun _ _ e _ => e, fun b o e => ⟨o, e⟩, fun j b q => ?_, fun j d' q => ?_, List.length_set, fun b z => ?_⟩, hle⟩
    · by_cases e1 : j = i
      · simp only [if_pos e1] at q1; cases q1
      · by_cases e2 : k = i
        · simp only [if_pos e2] at q2; cases q2
        · simp only [if_neg e1] at q1; simp only [if_neg e2] at q2; exact R.inj j k b q1 q2
    · by_cases e1 : j = i
      · simp only [if_pos e1] at q; cases q
      · simp only [if_neg e1] at q; exact R.nb j b q
    · by_cases e1 : j = i
      · simp only [if_pos e1] at q; cases q
      · simp only [if_neg e1] at q
        obtain ⟨d', p1, p2, p3⟩ := R.own j b q
        exact ⟨d', by rw [get j e1]; exact p1, by rw [getσ j e1]; exact p2, p3.mono (fun _ z => z) hs⟩
    · by_cases e1 : j = i
      · subst e1
        rw [List.getElem?_set_self his] at q
        cases q
        exact ⟨v, List.getElem?_set_self hiσ, Rp.mono hs _ _ h⟩
      · rw [get j e1] at q
        obtain ⟨u, p1, p2⟩ := R.im j d' q
        exact ⟨u, by rw [getσ j e1]; exact p1, Rp.mono hs _ _ p2⟩
    · by_cases e1 : j = i
      · subst e1
        rw [List.getElem?_set_self his] at q
        rcases q with q | q <;> cases q
      · rw [get j e1] at q
        obtain ⟨b, p⟩ := R.has j d' q
        exact ⟨b, by simp only [if_neg e1]; exact p⟩
    · by_cases e1 : j = i
      · simp only [if_pos e1] at q; cases q
      · simp only [if_neg e1] at q; exact .inl q
    · have e1 : j ≠ i := fun z => by subst z; exact h2 d' q
      exact ⟨by rw [get j e1]; exact q, by simp only [if_neg e1]⟩
    · rw [if_neg (pin_ne R hp h2 z)]
      exact z
  split at e
  · cases e
  · cases e
  · rename_i h1 h2
    split at e
    · cases e
    · rename_i hp
      cases e
      exact key (by simpa using hp) h2 (fun d' q => h1 d' q) rfl
end
end Ev

/-! Ev7: targets; list comprehensions. -/
namespace Ev
open PySem PySem.Spec PyProof.Rows L2
section
variable {F : Nat → Fn} {C : Nat → PyData} {X : Cx} {G : Gm} {K : PySem.W.Frag} {a b c : Expr} {ia ib ic : Ex} {σ : L2.St} {H : Hp} {Q : VK}
/-- the slots but those of is are as they were -/
def But (is : List Nat) (σ σ' : L2.St) : Prop := σ'.length = σ.length ∧ ∀ j, j ∉ is → σ'[j]? = σ[j]?
def gT (K : PySem.W.Frag) (tg : Tg) : TG := fun v σ H Q => ∃ s Z B d t, Rel K H σ s Z B ∧ Rp K (Hid H (hd Z B)) d v ∧ bindT tg d s = some t ∧ ∀ σ' Z', Gr K B σ' H s Z H t Z' → (∀ b, hd Z' B b → hd Z B b) → But (tgIx tg) σ σ' → Q σ' H
theorem PG.imp {e : Expr} {t t' : TG} (h : PG X e t) (k : ∀ v σ H Q, t' v σ H Q → t v σ H Q) : PG X e t' := ⟨fun pins s σ H v u Q I r q => h.run pins s σ H v u Q I r (k v σ H Q q)⟩
/-- a name that may be stored -/
structure Sto (X : Cx) (i : Nat) (e : Expr) : Prop where
  ex : ∃ x pos, e = .Name x pos ∧ X.N[i]? = some x ∧ Loc X.env.scope x ∧ (X.fn x = true ∨ X.env.scope.names.lookup x = some .local)
theorem pg_n (nd : X.N.Nodup) {i : Nat} {e : Expr} (h : Sto X i e) : PG X e (gName i) := by
  obtain ⟨x, pos, rfl, h1, h2, h3⟩ := h.ex
  exact pg_name nd h1 h2 h3
def bindL : List Nat → List PyData → Stt → Option Stt
  | [], [], s => some s
  | i :: is, d :: ds, s => match putS s i (.im d) with
    | some t => bindL is ds t
    | none => none
  | _, _, _ => none
theorem bindT_t (is : List Nat) (ds : List PyData) (s : Stt) : bindT (.t is) (.tuple ds) s = bindL is ds s := by
  show (if ds.length = is.length then (is.zip ds).foldlM (fun s p => putS s p.1 (.im p.2)) s else none) = bindL is ds s
  induction is generalizing ds s with
  | nil =>
    cases ds with
    | nil => rfl
    | cons d ds => rfl
  | cons i is ih =>
    cases ds with
    | nil => rfl
    | cons d ds =>
      simp only [List.length_cons, Nat.add_right_cancel_iff, List.zip_cons_cons, List.foldlM_cons, bindL]
      cases q : putS s i (.im d) with
      | none => simp
      | some t =>
        simp only [Option.bind_eq_bind, Option.bind_some]
        exact ih ds t
inductive StoL (X : Cx) : List Nat → List Expr → Prop where
  | nil : StoL X [] []
  | cons {i : Nat} {e : Expr} {is : List Nat} {es : List Expr} (h : Sto X i e) (t : StoL X is es) : StoL X (i :: is) (e :: es)
def gTs (K : PySem.W.Frag) (is : List Nat) : TGs := fun vs σ H Q => ∃ s Z B ds t, Rel K H σ s Z B ∧ RpL K (Hid H (hd Z B)) ds vs ∧ bindL is ds s = some t ∧ ∀ σ' Z', Gr K B σ' H s Z H t Z' → (∀ b, hd Z' B b → hd Z B b) → But is σ σ' → Q σ' H
theorem PGs.imp {e : List Expr} {t t' : TGs} (h : PGs X e t) (k : ∀ v σ H Q, t' v σ H Q → t v σ H Q) : PGs X e t' := ⟨fun pins s σ H v u Q I r q => h.run pins s σ H v u Q I r (k v σ H Q q)⟩
theorem Sto.each {i : Nat} {e : Expr} (h : Sto X i e) (es : List Expr) (env : PySem.Env) : assignEach (e :: es) env = (false, assign e env) :: assignEach es env := by
  obtain ⟨x, pos, rfl, _⟩ := h.ex
  rfl
theorem StoL.pgs (nd : X.N.Nodup) {is : List Nat} {es : List Expr} (h : StoL X is es) : PGs X es (gTs X.K is) := by
  induction h with
  | nil =>
    refine PGs.imp pgs_nil fun vs σ H Q h => ?_
    obtain ⟨s, Z, B, ds, t, R, r, e, k⟩ := h
    cases ds with
    | nil =>
      cases e
      simp only [RpL] at r
      exact ⟨r, k σ Z (.refl R) (fun _ z => z) ⟨rfl, fun _ _ => rfl⟩⟩
    | cons d ds => cases e
  | cons h t ih =>
    rename_i i e is es
    refine PGs.imp (pgs_cons (pg_n nd h) ih (by rw [h.each]; rfl)) fun vs σ H Q q => ?_
    obtain ⟨s, Z, B, ds, t', R, r, e', k⟩ := q
    cases ds with
    | nil => cases e'
    | cons d ds =>
      simp only [bindL] at e'
      cases q : putS s i (.im d) with
      | none => rw [q] at e'; cases e'
      | some s1 =>
        rw [q] at e'
        simp only at e'
        simp only [RpL] at r
        obtain ⟨v, vs', rfl, r1, r2⟩ := r
        obtain ⟨Z1, g1, hl⟩ := Gr.bind1 R q r1
        refine ⟨v, vs', rfl, s1, Z1, B, ds, t', g1.rel, RpL.mono (hid_mono hl) _ _ r2, e', fun σ' Z' g2 hl2 hb => ?_⟩
        refine k σ' Z' (g1.trans R g2) (fun b z => hl b (hl2 b z)) ⟨by rw [hb.1, List.length_set], fun j hj => ?_⟩
        rw [List.mem_cons, not_or] at hj
        rw [hb.2 j hj.2, List.getElem?_set_ne (Ne.symm hj.1)]
inductive SndT (X : Cx) : Tg → Expr → Prop where
  | n {i : Nat} {e : Expr} (h : Sto X i e) : SndT X (.n i) e
  | t {is : List Nat} {es : List Expr} {k : Nat} {pos : Pos} (h : StoL X is es) : SndT X (.t is) (.Tuple es k pos)
theorem StoL.len {is : List Nat} {es : List Expr} (h : StoL X is es) (env : PySem.Env) : (assignEach es env).length = is.length ∧ (assignEach es env).findIdx? (·.1) = none := by
  induction h with
  | nil => exact ⟨rfl, rfl⟩
  | cons h t ih =>
    rw [h.each]
    refine ⟨by rw [List.length_cons, List.length_cons, ih.1], ?_⟩
    rw [List.findIdx?_cons, ih.2]
    rfl
theorem SndT.pg (W : Wd X G F C) {tg : Tg} {e : Expr} (h : SndT X tg e) : PG X e (gT X.K tg) := by
  cases h with
  | n h =>
    refine PG.imp (pg_n W.nd h) fun v σ H Q q => ?_
    obtain ⟨s, Z, B, d, t, R, r, e', k⟩ := q
    obtain ⟨Z1, g1, hl⟩ := Gr.bind1 R e' r
    refine k _ Z1 g1 hl ⟨List.length_set, fun j hj => ?_⟩
    exact List.getElem?_set_ne (fun z => hj (by rw [← z]; exact List.mem_singleton.mpr rfl))
  | t h =>
    rename_i is es k0 pos
    refine PG.imp (pg_tup W.calm (h.pgs W.nd) (h.len X.env).1 (h.len X.env).2) fun v σ H Q q => ?_
    obtain ⟨s, Z, B, d, t, R, r, e', k⟩ := q
    cases d with
    | tuple ds =>
      rw [bindT_t] at e'
      have r' : Rp X.K H (.tuple ds) v := Rp.mono hid_le _ _ r
      simp only [Rp] at r
      obtain ⟨a, vs, rfl, q1, q2⟩ := r
      have hq : SqT X.K H a vs := by
        rcases q1 with (q | ⟨o, q⟩) | q
        · exact .inl (.inl (hid_le _ _ q))
        · exact .inl (.inr ⟨o, hid_le _ _ q⟩)
        · exact .inr q
      refine ⟨a, vs, rfl, hq, ?_, s, Z, B, ds, t, R, q2, e', k⟩
      rw [← q2.len]
      have : ∀ {is : List Nat} {ds : List PyData} {s t : Stt}, bindL is ds s = some t → ds.length = is.length := by
        intro is
        induction is with
        | nil => intro ds s t e; cases ds <;> first | rfl | cases e
        | cons i is ih =>
          intro ds s t e
          cases ds with
          | nil => cases e
          | cons d ds =>
            simp only [bindL] at e
            split at e
            · rw [List.length_cons, List.length_cons, ih e]
            · cases e
      exact this e'
    | _ => cases e'

/-! ### wiped slots -/
theorem wipe_get (σ : L2.St) (j : Nat) : ∀ vs : List Nat, (wipe σ vs)[j]? = if j ∈ vs ∧ j < σ.length then some none else σ[j]?
  | [] => by simp [wipe]
  | v :: vs => by
    unfold wipe
    by_cases h : v = j
    · subst h
      by_cases hl : v < σ.length
      · rw [List.getElem?_set_self (by rw [wipe_length]; exact hl), if_pos ⟨List.mem_cons_self, hl⟩]
      · rw [if_neg (fun z => hl z.2), List.getElem?_eq_none (by rw [List.length_set, wipe_length]; omega), List.getElem?_eq_none (by omega)]
    · rw [List.getElem?_set_ne h, wipe_get σ j vs]
      have : (j ∈ v :: vs ∧ j < σ.length) ↔ (j ∈ vs ∧ j < σ.length) := by
        rw [List.mem_cons]
        exact ⟨fun z => ⟨z.1.resolve_left (fun e => h e.symm), z.2⟩, fun z => ⟨.inr z.1, z.2⟩⟩
      by_cases hc : j ∈ vs ∧ j < σ.length
      · rw [if_pos hc, if_pos (this.mpr hc)]
      · rw [if_neg hc, if_neg (fun z => hc (this.mp z))]
theorem wipe_but {σ σ' : L2.St} {vs : List Nat} (h : But vs σ σ') : wipe σ' vs = wipe σ vs := by
  apply List.ext_getElem?
  intro j
  rw [wipe_get, wipe_get, h.1]
  by_cases hj : j ∈ vs
  · by_cases hl : j < σ.length
    · rw [if_pos ⟨hj, hl⟩, if_pos ⟨hj, hl⟩]
    · rw [if_neg (fun z => hl z.2), if_neg (fun z => hl z.2), List.getElem?_eq_none (by rw [h.1]; omega), List.getElem?_eq_none (by omega)]
  · rw [if_neg (fun z => hj z.1), if_neg (fun z => hj z.1), h.2 j hj]
theorem But.mono {is vs : List Nat} {σ σ' : L2.St} (h : But is σ σ') (hs : ∀ i ∈ is, i ∈ vs) : But vs σ σ' := ⟨h.1, fun j hj => h.2 j fun z => hj (hs j z)⟩
theorem But.wipe (σ : L2.St) (vs : List Nat) : But vs σ (L2.wipe σ vs) := ⟨wipe_length σ vs, fun j hj => by rw [wipe_get, if_neg (fun z => hj z.1)]⟩
theorem But.trans {vs : List Nat} {σ σ' σ'' : L2.St} (h : But vs σ σ') (h' : But vs σ' σ'') : But vs σ σ'' := ⟨h'.1.trans h.1, fun j hj => (h'.2 j hj).trans (h.2 j hj)⟩
theorem But.symm {vs : List Nat} {σ σ' : L2.St} (h : But vs σ σ') : But vs σ' σ := ⟨h.1.symm, fun j hj => (h.2 j hj).symm⟩
theorem wipeS_len (s : Stt) : ∀ vs : List Nat, (wipeS s vs).length = s.length
  | [] => rfl
  | v :: vs => by unfold wipeS; rw [List.length_set, wipeS_len s vs]
theorem wipeS_get (s : Stt) (j : Nat) : ∀ vs : List Nat, (wipeS s vs)[j]? = if j ∈ vs ∧ j < s.length then some .no else s[j]?
  | [] => by simp [wipeS]
  | v :: vs => by
    unfold wipeS
    by_cases h : v = j
    · subst h
      by_cases hl : v < s.length
      · rw [List.getElem?_set_self (by rw [wipeS_len]; exact hl), if_pos ⟨List.mem_cons_self, hl⟩]
      · rw [if_neg (fun z => hl z.2), List.getElem?_eq_none (by rw [List.length_set, wipeS_len]; omega), List.getElem?_eq_none (by omega)]
    · rw [List.getElem?_set_ne h, wipeS_get s j vs]
      have : (j ∈ v :: vs ∧ j < s.length) ↔ (j ∈ vs ∧ j < s.length) := by
        rw [List.mem_cons]
        exact ⟨fun z => ⟨z.1.resolve_left (fun e => h e.symm), z.2⟩, fun z => ⟨.inr z.1, z.2⟩⟩
      by_cases hc : j ∈ vs ∧ j < s.length
      · rw [if_pos hc, if_pos (this.mpr hc)]
      · rw [if_neg hc, if_neg (fun z => hc (this.mp z))]
theorem backS_len (s s' : Stt) : ∀ vs : List Nat, (backS s s' vs).length = s'.length
  | [] => rfl
  | v :: vs => by unfold backS; rw [List.length_set, backS_len s s' vs]
theorem backS_get (s s' : Stt) (j : Nat) : ∀ vs : List Nat, (backS s s' vs)[j]? = if j ∈ vs ∧ j < s'.length then some (s[j]?.getD .no) else s'[j]?
  | [] => by simp [backS]
  | v :: vs => by
    unfold backS
    by_cases h : v = j
    · subst h
      by_cases hl : v < s'.length
      · rw [List.getElem?_set_self (by rw [backS_len]; exact hl), if_pos ⟨List.mem_cons_self, hl⟩]
      · rw [if_neg (fun z => hl z.2), List.getElem?_eq_none (by rw [List.length_set, backS_len]; omega), List.getElem?_eq_none (by omega)]
    · rw [List.getElem?_set_ne h, backS_get s s' j vs]
      have : (j ∈ v :: vs ∧ j < s'.length) ↔ (j ∈ vs ∧ j < s'.length) := by
        rw [List.mem_cons]
        exact ⟨fun z => ⟨z.1.resolve_left (fun e => h e.symm), z.2⟩, fun z => ⟨.inr z.1, z.2⟩⟩
      by_cases hc : j ∈ vs ∧ j < s'.length
      · rw [if_pos hc, if_pos (this.mpr hc)]
      · rw [if_neg hc, if_neg (fun z => hc (this.mp z))]
theorem freeS_at {s : Stt} {vs : List Nat} (h : freeS s vs = true) {v : Nat} (hv : v ∈ vs) : ∀ d, s[v]? ≠ some (.ow d) ∧ s[v]? ≠ some (.lk d) := by
  have := List.all_eq_true.mp h v hv
  intro d
  refine ⟨fun z => ?_, fun z => ?_⟩
  · rw [z] at this; cases this
  · rw [z] at this; cases this
/-- the slots of a block forgotten -/
theorem Gr.wipe {s : Stt} {Z : Nat → Option Addr} {B : Addr → Prop} {vs : List Nat} (R : Rel K H σ s Z B) (h : freeS s vs = true) : Gr K B (L2.wipe σ vs) H s Z H (wipeS s vs) Z := by
  have ne : ∀ j d, (s[j]? = some (.ow d) ∨ s[j]? = some (.lk d)) → j ∉ vs := fun j d q hj => by
    have := freeS_at h hj d
    exact q.elim this.1 this.2
  refine ⟨⟨by rw [wipeS_len, wipe_length]; exact R.ls, R.inj, R.nb, fun j a q => ?_, fun j d q => ?_, fun j d q => ?_, R.bt⟩, fun _ _ e _ => e, fun b o e => ⟨o, e⟩, fun _ _ q => .inl q, fun j d q => ?_, wipeS_len s vs, fun _ h => h⟩
  · obtain ⟨d, p1, p2, p3⟩ := R.own j a q
    have hj := ne j d p1
    exact ⟨d, by rw [wipeS_get, if_neg (fun z => hj z.1)]; exact p1, by rw [wipe_get, if_neg (fun z => hj z.1)]; exact p2, p3⟩
  · rw [wipeS_get] at q
    split at q
    · cases q
    · rename_i hc
      have hj : j ∉ vs := fun z => hc ⟨z, (List.getElem?_eq_some_iff.mp q).1⟩
      obtain ⟨v, p1, p2⟩ := R.im j d q
      exact ⟨v, by rw [wipe_get, if_neg (fun z => hj z.1)]; exact p1, p2⟩
  · rw [wipeS_get] at q
    split at q
    · rcases q with q | q <;> cases q
    · exact R.has j d q
  · have hj := ne j d (.inr q)
    exact ⟨by rw [wipeS_get, if_neg (fun z => hj z.1)]; exact q, rfl⟩
end
end Ev

/-! Ev8: list comprehensions. -/
namespace Ev
open PySem PySem.Spec PyProof.Rows L2
section
variable {F : Nat → Fn} {C : Nat → PyData} {X : Cx} {G : Gm} {K : PySem.W.Frag} {a b c : Expr} {ia ib ic : Ex} {σ : L2.St} {H : Hp} {Q : VK}
theorem Gr.trans' {σ1 σ' : L2.St} {H1 H2 : Hp} {s s1 s2 : Stt} {Z Z1 Z2 : Nat → Option Addr} {B : Addr → Prop} (hown : ∀ i b, Z i = some b → ∃ d, s[i]? = some (.ow d) ∨ s[i]? = some (.lk d)) (g : Gr K B σ1 H s Z H1 s1 Z1) (g' : Gr K B σ' H1 s1 Z1 H2 s2 Z2) : Gr K B σ' H s Z H2 s2 Z2 where
  rel := g'.rel
  keep := fun b o e n => by
    refine g'.keep b o (g.keep b o e n) fun i d hs hz => ?_
    rcases g.new i b hz with h | h
    · obtain ⟨d', q⟩ := hown i b h
      rcases q with q | q
      · exact n i d' q h
      · have := (g.lck i d' q).1
        rw [hs] at this
        cases this
    · rw [h] at e; cases e
  tr := fun b o e => by
    obtain ⟨o1, e1⟩ := g.tr b o e
    exact g'.tr b o1 e1
  new := fun i b h => by
    rcases g'.new i b h with h | h
    · exact g.new i b h
    · refine .inr ?_
      cases q : H b with
      | none => rfl
      | some o =>
        obtain ⟨o', e'⟩ := g.tr b o q
        rw [h] at e'
        cases e'
  lck := fun i d h => by
    obtain ⟨h1, h2⟩ := g.lck i d h
    obtain ⟨h3, h4⟩ := g'.lck i d h1
    exact ⟨h3, h4.trans h2⟩
  pin := fun a h => g'.pin a (g.pin a h)
  len := g'.len.trans g.len
theorem lockL_get : ∀ (rs : List Rs) (s : Stt) (i : Nat), (lockL rs s)[i]? = s[i]? ∨ ∃ d, s[i]? = some (.ow d) ∧ (lockL rs s)[i]? = some (.lk d)
  | [], s, i => .inl rfl
  | r :: rs, s, i => by
    show (lockL rs (lockR r s))[i]? = s[i]? ∨ _
    rcases lockL_get rs (lockR r s) i with h | ⟨d, h1, h2⟩
    · rcases lockR_get r s i with h' | ⟨d, _, h1, h2⟩
      · exact .inl (h.trans h')
      · exact .inr ⟨d, h1, h.trans h2⟩
    · rcases lockR_get r s i with h' | ⟨d', _, h3, h4⟩
      · exact .inr ⟨d, h'.symm.trans h1, h2⟩
      · rw [h4] at h1; cases h1
theorem lockL_len : ∀ (rs : List Rs) (s : Stt), (lockL rs s).length = s.length
  | [], s => rfl
  | r :: rs, s => (lockL_len rs (lockR r s)).trans (lockR_len r s)
theorem unlockR_len (r : Rs) (s s' : Stt) : (unlockR r s s').length = s'.length := by
  rcases unlockR_eq r s s' with h | ⟨i, d, _, _, h⟩
  · rw [h]
  · rw [h, List.length_set]
theorem unlockL_len : ∀ (rs : List Rs) (s s' : Stt), (unlockL rs s s').length = s'.length
  | [], s, s' => rfl
  | r :: rs, s, s' => (unlockR_len r s _).trans (unlockL_len rs (lockR r s) s')
theorem unlockR_get (r : Rs) (s s' : Stt) (i : Nat) (hi : i < s'.length) : (unlockR r s s')[i]? = s'[i]? ∨ ∃ d, s[i]? = some (.ow d) ∧ (lockR r s)[i]? = some (.lk d) ∧ (unlockR r s s')[i]? = some (.ow d) := by
  rcases unlockR_eq r s s' with h | ⟨j, d, hk, hd, h⟩
  · exact .inl (by rw [h])
  · by_cases e : j = i
    · subst e
      refine .inr ⟨d, hd, ?_, by rw [h, List.getElem?_set_self hi]⟩
      unfold lockR
      rw [hk]
      simp only [hd]
      rw [List.getElem?_set_self (List.getElem?_eq_some_iff.mp hd).1]
    · exact .inl (by rw [h, List.getElem?_set_ne e])
theorem lockL_lk : ∀ (rs : List Rs) (s : Stt) (i : Nat) (d : PyData), s[i]? = some (.lk d) → (lockL rs s)[i]? = some (.lk d) := fun rs s i d h => by
  rcases lockL_get rs s i with h' | ⟨d', h1, _⟩
  · exact h'.trans h
  · rw [h] at h1; cases h1
theorem unlockL_get : ∀ (rs : List Rs) (s s' : Stt) (i : Nat), i < s'.length → (unlockL rs s s')[i]? = s'[i]? ∨ ∃ d, s[i]? = some (.ow d) ∧ (lockL rs s)[i]? = some (.lk d) ∧ (unlockL rs s s')[i]? = some (.ow d)
  | [], s, s', i, hi => .inl rfl
  | r :: rs, s, s', i, hi => by
    show (unlockR r s (unlockL rs (lockR r s) s'))[i]? = _ ∨ _
    rcases unlockR_get r s (unlockL rs (lockR r s) s') i (by rw [unlockL_len]; exact hi) with h | ⟨d, h1, h2, h3⟩
    · rcases unlockL_get rs (lockR r s) s' i hi with h' | ⟨d, h1, h2, h3⟩
      · exact .inl (h.trans h')
      · rcases lockR_get r s i with q | ⟨d', _, _, q⟩
        · exact .inr ⟨d, q.symm.trans h1, h2, h.trans h3⟩
        · rw [q] at h1; cases h1
    · exact .inr ⟨d, h1, lockL_lk rs _ i d h2, h3⟩
theorem Rel.lockL {s : Stt} {Z : Nat → Option Addr} {B : Addr → Prop} : ∀ (rs : List Rs) {s : Stt}, Rel K H σ s Z B → Rel K H σ (Ev.lockL rs s) Z B
  | [], s, R => R
  | r :: rs, s, R => Rel.lockL (s := Ev.lockL rs (lockR r s)) rs (R.lock r)
theorem freeS_lockL (rs : List Rs) (s : Stt) (vs : List Nat) (h : freeS s vs = true) : freeS (lockL rs s) vs = true := by
  unfold freeS
  rw [List.all_eq_true]
  intro v hv
  have hf := freeS_at h hv
  have h0 := List.all_eq_true.mp h v hv
  rcases lockL_get rs s v with q | ⟨d, q, _⟩
  · rw [q]; exact h0
  · exact absurd q (hf d).1
/-- one object more is hidden -/
theorem Rel.more {s : Stt} {Z : Nat → Option Addr} {B : Addr → Prop} {p : Addr} {o : HO} (R : Rel K H σ s Z B) (hp : H p = none) (l : LD o) : Rel K (upd H p o) σ s Z (fun b => b = p ∨ B b) := by
  obtain ⟨n1, n2⟩ := lay_fresh R hp
  have hs : Same (Hid H (hd Z B)) (Hid (upd H p o) (hd Z (fun b => b = p ∨ B b))) := fun b u e => by
    obtain ⟨n, e⟩ := hid_some.mp e
    have hb := ne_of_none e hp
    refine hid_some.mpr ⟨?_, by rw [upd_ne hb]; exact e⟩
    rintro (z | z | z)
    · exact n (.inl z)
    · exact hb z
    · exact n (.inr z)
  refine ⟨R.ls, R.inj, fun i a h z => ?_, fun i a h => ?_, fun i d h => ?_, R.has, fun b z => ?_⟩
  · rcases z with z | z
    · exact n1 i (by rw [← z]; exact h)
    · exact R.nb i a h z
  · obtain ⟨d, q, e, t⟩ := R.own i a h
    refine ⟨d, q, e, t.mono (fun u q => ?_) hs⟩
    rw [upd_ne (ne_of_none q hp)]
    exact q
  · obtain ⟨v, e, t⟩ := R.im i d h
    exact ⟨v, e, Rp.mono hs _ _ t⟩
  · rcases z with z | z
    · subst z
      exact ⟨o, upd_same, l⟩
    · obtain ⟨u, e, lu⟩ := R.bt b z
      exact ⟨u, by rw [upd_ne (ne_of_none e hp)]; exact e, lu⟩
/-- a hidden object is changed -/
theorem Rel.updB {s : Stt} {Z : Nat → Option Addr} {B : Addr → Prop} {p : Addr} {o : HO} (R : Rel K H σ s Z B) (hp : B p) (l : LD o) : Rel K (upd H p o) σ s Z B := by
  have hs : Same (Hid H (hd Z B)) (Hid (upd H p o) (hd Z B)) := fun b u e => by
    obtain ⟨n, e⟩ := hid_some.mp e
    have hb : b ≠ p := fun z => n (.inr (by rw [z]; exact hp))
    exact hid_some.mpr ⟨n, by rw [upd_ne hb]; exact e⟩
  refine ⟨R.ls, R.inj, R.nb, fun i a h => ?_, fun i d h => ?_, R.has, fun b z => ?_⟩
  · obtain ⟨d, q, e, t⟩ := R.own i a h
    have ha : a ≠ p := fun z => R.nb i a h (by rw [z]; exact hp)
    refine ⟨d, q, e, t.mono (fun u q => ?_) hs⟩
    rw [upd_ne ha]
    exact q
  · obtain ⟨v, e, t⟩ := R.im i d h
    exact ⟨v, e, Rp.mono hs _ _ t⟩
  · by_cases e : b = p
    · subst e
      exact ⟨o, upd_same, l⟩
    · obtain ⟨u, q, lu⟩ := R.bt b z
      exact ⟨u, by rw [upd_ne e]; exact q, lu⟩

/-! ### tests of a comprehension -/
def tC (F : Nat → Fn) (C : Nat → PyData) (K : PySem.W.Frag) (cs : List Ex) : TT := fun σ H Q => ∃ s Z B bl s', Rel K H σ s Z B ∧ Ev.evalC F C cs s = some (bl, s') ∧ ∀ H' Z', Gr K B σ H s Z H' s' Z' → Q bl H'
theorem pts_imp {ifs : List Expr} {t t' : TT} (h : PTs X ifs t) (k : ∀ σ H Q, t' σ H Q → t σ H Q) : PTs X ifs t' := ⟨fun pins s σ H Q I q => h.run pins s σ H Q I (k σ H Q q)⟩
inductive SndC (F : Nat → Fn) (C : Nat → PyData) (X : Cx) : List Expr → List Ex → Prop where
  | nil : SndC F C X [] []
  | one {e : Expr} {ir : Ex} (h : Snd F C X e ir) : SndC F C X [e] [ir]
theorem SndC.pts {ifs : List Expr} {cs : List Ex} (h : SndC F C X ifs cs) : PTs X ifs (tC F C X.K cs) := by
  cases h with
  | nil =>
    refine pts_imp pts_nil fun σ H Q h => ?_
    obtain ⟨s, Z, B, bl, s', R, e, k⟩ := h
    simp only [Ev.evalC, Option.some.injEq, Prod.mk.injEq] at e
    obtain ⟨rfl, rfl⟩ := e
    exact k H Z (.refl R)
  | one h =>
    refine pts_imp (pts_one h.pt) fun σ H Q h => ?_
    obtain ⟨s, Z, B, bl, s', R, e, k⟩ := h
    simp only [Ev.evalC] at e
    split at e
    · rename_i k1 s1 ea
      cases e
      exact ⟨s, Z, B, _, _, R, ea, fun v H1 Z1 g o => ⟨true, rp_bl o.rp, k H1 Z1 g⟩⟩
    · rename_i k1 s1 ea
      cases e
      exact ⟨s, Z, B, _, _, R, ea, fun v H1 Z1 g o => ⟨false, rp_bl o.rp, k H1 Z1 g⟩⟩
    · cases e

/-! ### the loop -/
theorem comp_core {e : Ex} {tg : Tg} {k : Ik} {its cs : List Ex} {own : List (Str × Nat)} (htg : ∀ i ∈ tgIx tg, i ∈ own.map (·.2)) {σ : L2.St} {H : Hp} {Q : VK} (h : tE F C K (.comp e tg k its cs own) σ H Q) :
    tLc (iE F C K k its) (gT K tg) (tC F C K cs) (tE F C K e) (own.map (·.2)) σ H Q := by
  obtain ⟨s, Z, B, r, s', R, ev, kk⟩ := h
  simp only [Ev.eval] at ev
  generalize hvs : own.map (·.2) = vs at *
  split at ev
  · rename_i rs s1 el
    split at ev
    · rename_i ds ed
      split at ev
      · rename_i hfree
        split at ev
        · rename_i accF s2 ego
          simp only [Option.some.injEq, Prod.mk.injEq] at ev
          obtain ⟨rfl, rfl⟩ := ev
          refine ⟨s, Z, B, rs, s1, ds, R, el, ed, fun J H1 Z1 vsI P g0 walk rp hold D hD => ?_⟩
          have R1 := g0.rel
          have nB : ¬ B D := fun z => by
            obtain ⟨o, q, _⟩ := R1.bt D z
            rw [hD] at q
            cases q
          -- the block's start
          have fr1 := freeS_lockL rs s1 vs hfree
          have Rl : Rel K H1 σ (lockL rs s1) Z1 B := Rel.lockL (s := s1) rs R1
          have ownS : ∀ i b, Z1 i = some b → ∃ d, (wipeS (lockL rs s1) vs)[i]? = some (.ow d) ∨ (wipeS (lockL rs s1) vs)[i]? = some (.lk d) := fun i b hz => by
            obtain ⟨d, q, _, _⟩ := Rl.own i b hz
            refine ⟨d, ?_⟩
            have hi : i ∉ vs := fun z => (freeS_at fr1 z d).1.elim (q.elim id fun q => absurd q (freeS_at fr1 z d).2)
            rw [wipeS_get, if_neg (fun z => hi z.1)]
            exact q
          have ssow : ∀ (i : Nat) d, (wipeS (lockL rs s1) vs)[i]? = some (Sl.ow d) → (lockL rs s1)[i]? = some (Sl.ow d) := fun i d q => by
            rw [wipeS_get] at q
            split at q
            · cases q
            · exact q
          have start : Gr K (fun b => b = D ∨ B b) (wipe σ vs) H1 (wipeS (lockL rs s1) vs) Z1 (upd H1 D (.lst [])) (wipeS (lockL rs s1) vs) Z1 := by
            have R2 := (Gr.wipe (Rel.more Rl hD (o := .lst []) trivial) fr1).rel
            have ns : ∀ b o, H1 b = some o → upd H1 D (.lst []) b = some o := fun b o q => by rw [upd_ne (ne_of_none q hD)]; exact q
            exact ⟨R2, fun b o q _ => ns b o q, fun b o q => ⟨o, ns b o q⟩, fun _ _ q => .inl q, fun _ _ q => ⟨q, rfl⟩, rfl, fun _ h => h⟩
          -- seen from the start
          have seen : ∀ {Hx : Hp} {sx : Stt} {Zx : Nat → Option Addr} {σx : L2.St}, Gr K (fun b => b = D ∨ B b) σx H1 (wipeS (lockL rs s1) vs) Z1 Hx sx Zx → Same (Hid H1 (hd Z1 B)) (Hid Hx (hd Zx (fun b => b = D ∨ B b))) := fun {Hx sx Zx σx} g b o q => by
            obtain ⟨n, q⟩ := hid_some.mp q
            have hb := ne_of_none q hD
            refine g.seen b o (hid_some.mpr ⟨?_, q⟩)
            rintro (z | z | z)
            · exact n (.inl z)
            · exact hb z
            · exact n (.inr z)
          generalize hturn : (fun (d : PyData) (acc : List PyData) (t : Stt) => match bindT tg d t with
            | some t1 => match Ev.evalC F C cs t1 with
              | some (true, t2) => match Ev.eval F C e t2 with
                | some (r, t3) => if isIm r && decide (acc.length < sizeLine) && freeS t3 vs then some (acc ++ [r.d], wipeS t3 vs) else none
                | none => none
              | some (false, t2) => if freeS t2 vs then some (acc, wipeS t2 vs) else none
              | none => none
            | none => none) = turn at ego
          refine lc_it walk (fun i Hx => ∃ sx Zx acc accV, Gr K (fun b => b = D ∨ B b) (wipe σ vs) H1 (wipeS (lockL rs s1) vs) Z1 Hx sx Zx ∧ Hx D = some (.lst accV) ∧ RpL K (Hid Hx (hd Zx (fun b => b = D ∨ B b))) acc accV ∧
            compGo turn (ds.drop i) acc sx = some (accF, s2)) ?h0 ?hG ?hs ?hd
          case h0 => exact ⟨_, _, [], [], start, upd_same, .nil, by rw [List.drop_zero]; exact ego⟩
          case hG =>
            rintro i Hx hi ⟨sx, Zx, acc, accV, g, _⟩
            exact hold Hx fun b o q n _ => g.keep b o q fun j d hj => n j d (ssow j d hj)
          case hs =>
            rintro i x Hx Hx' hi ⟨sx, Zx, acc, accV, g, hDx, racc, go⟩ ⟨rfl, hx⟩
            obtain ⟨d, hd', rpd⟩ := rp.get' hx
            rw [List.drop_eq_getElem_cons hi] at go
            have hdi : ds[i] = d := by
              have := List.getElem?_eq_getElem hi
              rw [hd'] at this
              exact (Option.some.inj this).symm
            rw [hdi] at go
            simp only [compGo] at go
            cases ht : turn d acc sx with
            | none => rw [ht] at go; cases go
            | some pr =>
              obtain ⟨acc', sx'⟩ := pr
              rw [ht] at go
              simp only at go
              rw [← hturn] at ht
              simp only at ht
              cases eb : bindT tg d sx with
              | none => rw [eb] at ht; cases ht
              | some t1 =>
                rw [eb] at ht
                simp only at ht
                refine ⟨sx, Zx, _, d, t1, g.rel, Rp.mono (seen g) _ _ rpd, eb, fun σ2 Z2 g1 hl1 hb => ?_⟩
                have hb' := hb.mono htg
                have hw : wipe σ2 vs = wipe σ vs := (wipe_but hb').trans (wipe_but (But.wipe σ vs))
                refine ⟨hw, ?_⟩
                -- the new list stays
                have stay : ∀ {Ha Hb : Hp} {sa sb : Stt} {Za Zb : Nat → Option Addr} {σa σb : L2.St}, Rel K Ha σa sa Za (fun b => b = D ∨ B b) → Gr K (fun b => b = D ∨ B b) σb Ha sa Za Hb sb Zb → Ha D = some (.lst accV) → Hb D = some (.lst accV) := fun {Ha Hb sa sb Za Zb σa σb} Ra ga q =>
                  ga.keep D _ q fun j d _ z => Ra.nb j D z (.inl rfl)
                cases ec : Ev.evalC F C cs t1 with
                | none => rw [ec] at ht; cases ht
                | some pc =>
                  obtain ⟨bl, t2⟩ := pc
                  rw [ec] at ht
                  refine ⟨t1, Z2, _, bl, t2, g1.rel, ec, fun H3 Z3 g2 => ?_⟩
                  have gA := Gr.trans' ownS g (g1.trans g.rel g2)
                  have hD3 := stay g1.rel g2 (stay g.rel g1 hDx)
                  have racc3 : RpL K (Hid H3 (hd Z3 (fun b => b = D ∨ B b))) acc accV := RpL.mono (g1.trans g.rel g2).seen _ _ racc
                  cases bl with
                  | false =>
                    simp only at ht
                    split at ht
                    · rename_i hf2
                      cases ht
                      refine iteF ?_
                      have gw := Gr.wipe gA.rel hf2
                      rw [hw] at gw
                      exact ⟨_, Z3, acc, accV, Gr.trans' ownS gA gw, hD3, racc3, go⟩
                    · cases ht
                  | true =>
                    simp only at ht
                    refine iteT ?_
                    cases ee : Ev.eval F C e t2 with
                    | none => rw [ee] at ht; cases ht
                    | some pe =>
                      obtain ⟨r, t3⟩ := pe
                      rw [ee] at ht
                      simp only at ht
                      split at ht
                      · rename_i hc
                        simp only [Bool.and_eq_true, decide_eq_true_eq] at hc
                        cases ht
                        refine ⟨t2, Z3, _, r, t3, gA.rel, ee, fun y H4 Z4 g3 oy => ?_⟩
                        have hD4 := stay gA.rel g3 hD3
                        refine ⟨accV, hD4, by rw [← racc3.len]; exact hc.1.2, ?_⟩
                        have gB := Gr.trans' ownS gA g3
                        have racc4 : RpL K (Hid H4 (hd Z4 (fun b => b = D ∨ B b))) acc accV := RpL.mono g3.seen _ _ racc3
                        have hs5 : Same (Hid H4 (hd Z4 (fun b => b = D ∨ B b))) (Hid (upd H4 D (.lst (accV ++ [y]))) (hd Z4 (fun b => b = D ∨ B b))) := fun b o q => by
                          obtain ⟨n, q⟩ := hid_some.mp q
                          have hbD : b ≠ D := fun z => n (.inr (.inl z))
                          exact hid_some.mpr ⟨n, by rw [upd_ne hbD]; exact q⟩
                        have R5 := (Gr.wipe (Rel.updB gB.rel (p := D) (o := .lst (accV ++ [y])) (.inl rfl) trivial) hc.2).rel
                        rw [hw] at R5
                        have ne5 : ∀ b o, H1 b = some o → upd H4 D (.lst (accV ++ [y])) b = H4 b := fun b o q => upd_ne (ne_of_none q hD)
                        have gw := Gr.wipe gB.rel hc.2
                        refine ⟨wipeS t3 vs, Z4, acc ++ [r.d], accV ++ [y], ⟨R5, fun b o q n => by rw [ne5 b o q]; exact gB.keep b o q n, fun b o q => ?_, gB.new, fun j dj q => ?_, by rw [wipeS_len]; exact gB.len, gB.pin⟩, upd_same, (RpL.mono hs5 _ _ racc4).append (.cons (Rp.mono hs5 _ _ (oy.im hc.1.1)) .nil), go⟩
                        · rw [ne5 b o q]
                          exact gB.tr b o q
                        · obtain ⟨q1, q2⟩ := gB.lck j dj q
                          obtain ⟨q3, _⟩ := gw.lck j dj q1
                          exact ⟨q3, q2⟩
                      · cases ht
          case hd =>
            rintro Hn ⟨sx, Zx, acc, accV, g, hDn, racc, go⟩
            rw [List.drop_length] at go
            simp only [compGo, Option.some.injEq, Prod.mk.injEq] at go
            obtain ⟨rfl, rfl⟩ := go
            have Rn := g.rel
            have hle : ∀ b, hd Zx B b → hd Zx (fun b => b = D ∨ B b) b := fun b z => z.elim .inl fun z => .inr (.inr z)
            have hsB := hid_mono (H := Hn) hle
            have ln : sx.length = s1.length := by rw [g.len, wipeS_len, lockL_len]
            -- slots that hold a list are not the block's
            have ninv : ∀ i a, Zx i = some a → i ∉ vs := fun i a hz hi => by
              obtain ⟨_, _, q, _⟩ := Rn.own i a hz
              rw [wipe_get] at q
              split at q
              · cases q
              · rename_i hc
                exact hc ⟨hi, (List.getElem?_eq_some_iff.mp q).1⟩
            have blen : (backS s1 (unlockL rs s1 sx) vs).length = s1.length := by rw [backS_len, unlockL_len, ln]
            have bget : ∀ i, i ∉ vs → (backS s1 (unlockL rs s1 sx) vs)[i]? = (unlockL rs s1 sx)[i]? := fun i hi => by
              rw [backS_get, if_neg (fun z => hi z.1)]
            have bin : ∀ i, i ∈ vs → i < s1.length → (backS s1 (unlockL rs s1 sx) vs)[i]? = s1[i]? := fun i hi hl => by
              rw [backS_get, if_pos ⟨hi, by rw [unlockL_len, ln]; exact hl⟩, List.getElem?_eq_getElem hl]
              rfl
            -- what an unlocked slot holds
            have ulk : ∀ (i : Nat) d, s1[i]? = some (Sl.ow d) → (lockL rs s1)[i]? = some (Sl.lk d) → sx[i]? = some (Sl.lk d) := fun i d q1 q2 => by
              have hi : i ∉ vs := fun z => (freeS_at hfree z d).1 q1
              have : (wipeS (lockL rs s1) vs)[i]? = some (.lk d) := by rw [wipeS_get, if_neg (fun z => hi z.1)]; exact q2
              exact (g.lck i d this).1
            have relN : Rel K Hn σ (backS s1 (unlockL rs s1 sx) vs) Zx B := by
              refine ⟨by rw [blen]; exact R1.ls, Rn.inj, fun i a hz z => Rn.nb i a hz (.inr z), fun i a hz => ?_, fun i d q => ?_, fun i d q => ?_, fun b z => Rn.bt b (.inr z)⟩
              · obtain ⟨d, q, e1, t⟩ := Rn.own i a hz
                have hi := ninv i a hz
                rw [wipe_get, if_neg (fun z => hi z.1)] at e1
                refine ⟨d, ?_, e1, t.mono (fun _ z => z) hsB⟩
                rw [bget i hi]
                have hil : i < sx.length := by
                  rcases q with q | q <;> exact (List.getElem?_eq_some_iff.mp q).1
                rcases unlockL_get rs s1 sx i hil with u | ⟨d', u1, u2, u3⟩
                · rw [u]; exact q
                · have := ulk i d' u1 u2
                  rcases q with q | q
                  · rw [this] at q; cases q
                  · rw [this] at q; cases q
                    exact .inl u3
              · have hil : i < s1.length := by rw [← blen]; exact (List.getElem?_eq_some_iff.mp q).1
                by_cases hi : i ∈ vs
                · rw [bin i hi hil] at q
                  obtain ⟨v, e1, t⟩ := R1.im i d q
                  exact ⟨v, e1, Rp.mono hsB _ _ (Rp.mono (seen g) _ _ t)⟩
                · rw [bget i hi] at q
                  rcases unlockL_get rs s1 sx i (by rw [ln]; exact hil) with u | ⟨d', u1, u2, u3⟩
                  · rw [u] at q
                    obtain ⟨v, e1, t⟩ := Rn.im i d q
                    rw [wipe_get, if_neg (fun z => hi z.1)] at e1
                    exact ⟨v, e1, Rp.mono hsB _ _ t⟩
                  · rw [u3] at q; cases q
              · have hil : i < s1.length := by
                  rw [← blen]
                  rcases q with q | q <;> exact (List.getElem?_eq_some_iff.mp q).1
                by_cases hi : i ∈ vs
                · rw [bin i hi hil] at q
                  have := freeS_at hfree hi d
                  exact (q.elim this.1 this.2).elim
                · rw [bget i hi] at q
                  rcases unlockL_get rs s1 sx i (by rw [ln]; exact hil) with u | ⟨d', u1, u2, u3⟩
                  · rw [u] at q
                    exact Rn.has i d q
                  · exact Rn.has i d' (.inr (ulk i d' u1 u2))
            have gN : Gr K B σ H1 s1 Z1 Hn (backS s1 (unlockL rs s1 sx) vs) Zx := by
              refine ⟨relN, fun b o q n => g.keep b o q fun i d hi => n i d ?_, g.tr, g.new, fun i d q => ?_, blen, g.pin⟩
              · have := ssow i d hi
                rcases lockL_get rs s1 i with u | ⟨d', _, u2⟩
                · rw [← u]; exact this
                · rw [u2] at this; cases this
              · have hi : i ∉ vs := fun z => (freeS_at hfree z d).2 q
                have hil := (List.getElem?_eq_some_iff.mp q).1
                have q1 : (wipeS (lockL rs s1) vs)[i]? = some (.lk d) := by rw [wipeS_get, if_neg (fun z => hi z.1)]; exact lockL_lk rs s1 i d q
                obtain ⟨q2, q3⟩ := g.lck i d q1
                refine ⟨?_, q3⟩
                rw [bget i hi]
                rcases unlockL_get rs s1 sx i (by rw [ln]; exact hil) with u | ⟨d', u1, _, _⟩
                · rw [u]; exact q2
                · rw [q] at u1; cases u1
            refine kk _ Hn Zx (g0.trans R gN) ⟨D, rfl, fun i z => Rn.nb i D z (.inl rfl), nB, g0.old D hD, accV, hDn, RpL.mono (hid_mono fun b z => ?_) _ _ racc⟩
            rcases z with z | z | z
            · exact .inr (.inl z)
            · exact .inl z
            · exact .inr (.inr z)
        · cases ev
      · cases ev
    · cases ev
  · cases ev
theorem snd_comp (W : Wd X G F C) {elt tgE iter : Expr} {ifs : List Expr} {scope : Scope} {pos : Pos} {e : Ex} {tg : Tg} {k : Ik} {its cs : List Ex} {own : List (Str × Nat)} (hI : SndI F C X iter k its) (ok : BlkOk X.N X.env.scope scope own)
    (htg : ∀ i ∈ tgIx tg, i ∈ own.map (·.2)) (hg : ∀ (s : Shared) (H : Hp) (A : Addr) (cl : List (Str × Addr)) (fp : List Addr), SndT (X.blk s H scope (compEnvC scope cl A X.env) fp) tg tgE)
    (hc : ∀ (s : Shared) (H : Hp) (A : Addr) (cl : List (Str × Addr)) (fp : List Addr), SndC F C (X.blk s H scope (compEnvC scope cl A X.env) fp) ifs cs)
    (he : ∀ (s : Shared) (H : Hp) (A : Addr) (cl : List (Str × Addr)) (fp : List Addr), Snd F C (X.blk s H scope (compEnvC scope cl A X.env) fp) elt e)
    (wb : ∀ (s : Shared) (H : Hp) (A : Addr) (cl : List (Str × Addr)) (fp : List Addr), Wd (X.blk s H scope (compEnvC scope cl A X.env) fp) G F C) :
    Snd F C X (.ListComp elt [⟨tgE, iter, ifs, 0⟩] scope pos) (.comp e tg k its cs own) := by
  refine snd_val (PE.imp (pe_lc (own := own) W.calm W.nd (hI.pi W) ok (fun s H A cl fp => (hg s H A cl fp).pg (wb s H A cl fp)) (fun s H A cl fp => (hc s H A cl fp).pts) (fun s H A cl fp => (he s H A cl fp).pe) (fun x => hI.fine.fold _ x)) fun σ H Q h => comp_core htg h) (by intro _; rfl) (fun _ _ _ z => nomatch z) trivial
end
end Ev

/-! Ev8b: a comprehension of two clauses. -/
namespace Ev
open PySem PySem.Spec PyProof.Rows L2
section
variable {F : Nat → Fn} {C : Nat → PyData} {X : Cx} {G : Gm} {K : PySem.W.Frag}
/-- one turn -/
def turnD (F : Nat → Fn) (C : Nat → PyData) (tg : Tg) (cs : List Ex) (e : Ex) (vs : List Nat) (d : PyData) (acc : List PyData) (t : Stt) : Option (List PyData × Stt) :=
  match bindT tg d t with
  | some t1 => match Ev.evalC F C cs t1 with
    | some (true, t2) => match Ev.eval F C e t2 with
      | some (r, t3) => if isIm r && decide (acc.length < sizeLine) && freeS t3 vs then some (acc ++ [r.d], wipeS t3 vs) else none
      | none => none
    | some (false, t2) => if freeS t2 vs then some (acc, wipeS t2 vs) else none
    | none => none
  | none => none
theorem turn_core {tg : Tg} {cs : List Ex} {e : Ex} {vs : List Nat} (htg : ∀ i ∈ tgIx tg, i ∈ vs) {σ : L2.St} {Hb : Hp} {sb : Stt} {Zb : Nat → Option Addr} {B : Addr → Prop} {D : Addr} (hbD : Hb D = none)
    (ownS : ∀ i b, Zb i = some b → ∃ d, sb[i]? = some (.ow d) ∨ sb[i]? = some (.lk d)) {Hx : Hp} {sx : Stt} {Zx : Nat → Option Addr} {acc : List PyData} {accV : List V} (g : Gr K (fun b => b = D ∨ B b) (wipe σ vs) Hb sb Zb Hx sx Zx) (hDx : Hx D = some (.lst accV))
    (racc : RpL K (Hid Hx (hd Zx (fun b => b = D ∨ B b))) acc accV) {d : PyData} {x : V} (rpd : Rp K (Hid Hx (hd Zx (fun b => b = D ∨ B b))) d x) {acc' : List PyData} {sx' : Stt} (ht : turnD F C tg cs e vs d acc sx = some (acc', sx')) {N : Hp → Prop}
    (hN : ∀ H' Z' accV', Gr K (fun b => b = D ∨ B b) (wipe σ vs) Hb sb Zb H' sx' Z' → H' D = some (.lst accV') → RpL K (Hid H' (hd Z' (fun b => b = D ∨ B b))) acc' accV' → N H') :
    gT K tg x (wipe σ vs) Hx fun σ2 H2 => wipe σ2 vs = wipe σ vs ∧ tC F C K cs σ2 H2 fun b H3 =>
      if b = true then tE F C K e σ2 H3 fun y H4 => ∃ acc, H4 D = some (.lst acc) ∧ acc.length < sizeLine ∧ N (upd H4 D (.lst (acc ++ [y]))) else N H3 := by
  unfold turnD at ht
  cases eb : bindT tg d sx with
  | none => rw [eb] at ht; cases ht
  | some t1 =>
    rw [eb] at ht
    simp only at ht
    refine ⟨sx, Zx, _, d, t1, g.rel, rpd, eb, fun σ2 Z2 g1 hl1 hb => ?_⟩
    have hb' := hb.mono htg
    have hw : wipe σ2 vs = wipe σ vs := (wipe_but hb').trans (wipe_but (But.wipe σ vs))
    refine ⟨hw, ?_⟩
    have stay : ∀ {Ha Hb : Hp} {sa sb : Stt} {Za Zb : Nat → Option Addr} {σa σb : L2.St}, Rel K Ha σa sa Za (fun b => b = D ∨ B b) → Gr K (fun b => b = D ∨ B b) σb Ha sa Za Hb sb Zb → Ha D = some (.lst accV) → Hb D = some (.lst accV) := fun {Ha Hb sa sb Za Zb σa σb} Ra ga q =>
      ga.keep D _ q fun j d _ z => Ra.nb j D z (.inl rfl)
    cases ec : Ev.evalC F C cs t1 with
    | none => rw [ec] at ht; cases ht
    | some pc =>
      obtain ⟨bl, t2⟩ := pc
      rw [ec] at ht
      refine ⟨t1, Z2, _, bl, t2, g1.rel, ec, fun H3 Z3 g2 => ?_⟩
      have gA := Gr.trans' ownS g (g1.trans g.rel g2)
      have hD3 := stay g1.rel g2 (stay g.rel g1 hDx)
      have racc3 : RpL K (Hid H3 (hd Z3 (fun b => b = D ∨ B b))) acc accV := RpL.mono (g1.trans g.rel g2).seen _ _ racc
      cases bl with
      | false =>
        simp only at ht
        split at ht
        · rename_i hf2
          cases ht
          refine iteF ?_
          have gw := Gr.wipe gA.rel hf2
          rw [hw] at gw
          exact hN _ Z3 accV (Gr.trans' ownS gA gw) hD3 racc3
        · cases ht
      | true =>
        simp only at ht
        refine iteT ?_
        cases ee : Ev.eval F C e t2 with
        | none => rw [ee] at ht; cases ht
        | some pe =>
          obtain ⟨r, t3⟩ := pe
          rw [ee] at ht
          simp only at ht
          split at ht
          · rename_i hc
            simp only [Bool.and_eq_true, decide_eq_true_eq] at hc
            cases ht
            refine ⟨t2, Z3, _, r, t3, gA.rel, ee, fun y H4 Z4 g3 oy => ?_⟩
            have hD4 := stay gA.rel g3 hD3
            refine ⟨accV, hD4, by rw [← racc3.len]; exact hc.1.2, ?_⟩
            have gB := Gr.trans' ownS gA g3
            have racc4 : RpL K (Hid H4 (hd Z4 (fun b => b = D ∨ B b))) acc accV := RpL.mono g3.seen _ _ racc3
            have hs5 : Same (Hid H4 (hd Z4 (fun b => b = D ∨ B b))) (Hid (upd H4 D (.lst (accV ++ [y]))) (hd Z4 (fun b => b = D ∨ B b))) := fun b o q => by
              obtain ⟨n, q⟩ := hid_some.mp q
              have hbD : b ≠ D := fun z => n (.inr (.inl z))
              exact hid_some.mpr ⟨n, by rw [upd_ne hbD]; exact q⟩
            have R5 := (Gr.wipe (Rel.updB gB.rel (p := D) (o := .lst (accV ++ [y])) (.inl rfl) trivial) hc.2).rel
            rw [hw] at R5
            have ne5 : ∀ b o, Hb b = some o → upd H4 D (.lst (accV ++ [y])) b = H4 b := fun b o q => upd_ne (ne_of_none q hbD)
            have gw := Gr.wipe gB.rel hc.2
            refine hN _ Z4 (accV ++ [y]) ⟨R5, fun b o q n => by rw [ne5 b o q]; exact gB.keep b o q n, fun b o q => ?_, gB.new, fun j dj q => ?_, by rw [wipeS_len]; exact gB.len, gB.pin⟩ upd_same ((RpL.mono hs5 _ _ racc4).append (.cons (Rp.mono hs5 _ _ (oy.im hc.1.1)) .nil))
            · rw [ne5 b o q]
              exact gB.tr b o q
            · obtain ⟨q1, q2⟩ := gB.lck j dj q
              obtain ⟨q3, _⟩ := gw.lck j dj q1
              exact ⟨q3, q2⟩
          · cases ht
/-- the heap without D -/
def cut (H : Hp) (D : Addr) : Hp := fun b => if b = D then none else H b
theorem cut_ne {H : Hp} {D b : Addr} (h : b ≠ D) : cut H D b = H b := if_neg h
theorem cut_self {H : Hp} {D : Addr} : cut H D D = none := if_pos rfl
theorem cut_some {H : Hp} {D b : Addr} {o : HO} (h : cut H D b = some o) : b ≠ D ∧ H b = some o := by
  by_cases e : b = D
  · subst e; rw [cut_self] at h; cases h
  · rw [cut_ne e] at h; exact ⟨e, h⟩
theorem Gr.transD {D : Addr} {σ1 σ' : L2.St} {H H1 H2 : Hp} {s s1 s2 : Stt} {Z Z1 Z2 : Nat → Option Addr} {B : Addr → Prop} (hD : H D = none) (hown : ∀ i b, Z i = some b → ∃ d, s[i]? = some (.ow d) ∨ s[i]? = some (.lk d)) (g : Gr K B σ1 H s Z H1 s1 Z1) (g' : Gr K B σ' (cut H1 D) s1 Z1 H2 s2 Z2) : Gr K B σ' H s Z H2 s2 Z2 where
  rel := g'.rel
  keep := fun b o e n => by
    have hb := ne_of_none e hD
    refine g'.keep b o (by rw [cut_ne hb]; exact g.keep b o e n) fun i d hs hz => ?_
    rcases g.new i b hz with h | h
    · obtain ⟨d', q⟩ := hown i b h
      rcases q with q | q
      · exact n i d' q h
      · have := (g.lck i d' q).1
        rw [hs] at this
        cases this
    · rw [h] at e; cases e
  tr := fun b o e => by
    have hb := ne_of_none e hD
    obtain ⟨o1, e1⟩ := g.tr b o e
    exact g'.tr b o1 (by rw [cut_ne hb]; exact e1)
  new := fun i b h => by
    rcases g'.new i b h with h | h
    · exact g.new i b h
    · refine .inr ?_
      by_cases hb : b = D
      · rw [hb]; exact hD
      · rw [cut_ne hb] at h
        cases q : H b with
        | none => rfl
        | some o =>
          obtain ⟨o', e'⟩ := g.tr b o q
          rw [h] at e'
          cases e'
  lck := fun i d h => by
    obtain ⟨h1, h2⟩ := g.lck i d h
    obtain ⟨h3, h4⟩ := g'.lck i d h1
    exact ⟨h3, h4.trans h2⟩
  len := g'.len.trans g.len
  pin := fun a h => g'.pin a (g.pin a h)
/-- the inner loop -/
theorem loop_it {J : It} {n : Nat} {P : Hp → Prop} {vs : List V} (w : Walk J n P (fun i Hx x Hx' => Hx' = Hx ∧ vs[i]? = some x)) {g : TG} {tt : TT} {te : TE} {ws : List Nat} {σ : L2.St} {H1 : Hp} {D : Addr} {Nx : Hp → Prop} (Pv : Nat → Hp → Prop) (h0 : Pv 0 H1) (hG : ∀ i H, i ≤ n → Pv i H → P H)
    (hs : ∀ i x H, i < n → Pv i H → vs[i]? = some x → g x (wipe σ ws) H fun σ2 H2 => wipe σ2 ws = wipe σ ws ∧ tt σ2 H2 fun b H3 =>
      if b = true then te σ2 H3 fun y H4 => ∃ acc, H4 D = some (.lst acc) ∧ acc.length < sizeLine ∧ Pv (i + 1) (upd H4 D (.lst (acc ++ [y]))) else Pv (i + 1) H3) (hd : ∀ H, Pv n H → Nx H) :
    ∃ W : Nat → Nat → Hp → Prop, (∃ m, W 0 m H1) ∧ ∀ i m H, W i m H →
      (J.stop i H ∧ Nx H) ∨ (J.go i H ∧ ∃ Nx1 : Hp → Prop, (∀ H', Nx1 H' → ∃ m', m' < m ∧ W (i + 1) m' H') ∧ ∀ x H', J.yld i H x H' → g x (wipe σ ws) H' fun σ2 H2 => wipe σ2 ws = wipe σ ws ∧ tt σ2 H2 fun b H3 =>
        if b = true then te σ2 H3 fun y H4 => ∃ acc, H4 D = some (.lst acc) ∧ acc.length < sizeLine ∧ Nx1 (upd H4 D (.lst (acc ++ [y]))) else Nx1 H3) := by
  refine ⟨fun i m H => m = n - i ∧ i ≤ n ∧ Pv i H, ⟨n, by simp, Nat.zero_le _, h0⟩, ?_⟩
  rintro i m H ⟨rfl, hi, p⟩
  have q := hG i H hi p
  by_cases hlt : i < n
  · refine .inr ⟨w.goes i H hlt q, Pv (i + 1), fun H' p' => ⟨n - (i + 1), by omega, rfl, hlt, p'⟩, fun x H' y => ?_⟩
    obtain ⟨rfl, hx⟩ := w.yields i H x H' hlt q y
    exact hs i x _ hlt p hx
  · have e : i = n := by omega
    subst e
    exact .inl ⟨w.stops H q, hd H p⟩
/-- the outer loop -/
theorem loop2_it {J : It} {n : Nat} {P : Hp → Prop} {vs : List V} (w : Walk J n P (fun i Hx x Hx' => Hx' = Hx ∧ vs[i]? = some x)) {g : TG} {body : L2.St → Hp → (Hp → Prop) → Prop} {ws : List Nat} {σ : L2.St} {H1 : Hp} {Nx : Hp → Prop} (Pv : Nat → Hp → Prop) (h0 : Pv 0 H1) (hG : ∀ i H, i ≤ n → Pv i H → P H)
    (hs : ∀ i x H, i < n → Pv i H → vs[i]? = some x → g x (wipe σ ws) H fun σ2 H2 => wipe σ2 ws = wipe σ ws ∧ body σ2 H2 (Pv (i + 1))) (hd : ∀ H, Pv n H → Nx H) :
    ∃ W : Nat → Nat → Hp → Prop, (∃ m, W 0 m H1) ∧ ∀ i m H, W i m H →
      (J.stop i H ∧ Nx H) ∨ (J.go i H ∧ ∃ Nx1 : Hp → Prop, (∀ H', Nx1 H' → ∃ m', m' < m ∧ W (i + 1) m' H') ∧ ∀ x H', J.yld i H x H' → g x (wipe σ ws) H' fun σ2 H2 => wipe σ2 ws = wipe σ ws ∧ body σ2 H2 Nx1) := by
  refine ⟨fun i m H => m = n - i ∧ i ≤ n ∧ Pv i H, ⟨n, by simp, Nat.zero_le _, h0⟩, ?_⟩
  rintro i m H ⟨rfl, hi, p⟩
  have q := hG i H hi p
  by_cases hlt : i < n
  · refine .inr ⟨w.goes i H hlt q, Pv (i + 1), fun H' p' => ⟨n - (i + 1), by omega, rfl, hlt, p'⟩, fun x H' y => ?_⟩
    obtain ⟨rfl, hx⟩ := w.yields i H x H' hlt q y
    exact hs i x _ hlt p hx
  · have e : i = n := by omega
    subst e
    exact .inl ⟨w.stops H q, hd H p⟩
end
end Ev

/-! Ev8c: a comprehension of two clauses. -/
namespace Ev
open PySem PySem.Spec PyProof.Rows L2
theorem lockL_im : ∀ {rs : List Rs}, rs.all isIm = true → ∀ s : Stt, lockL rs s = s
  | [], _, s => rfl
  | r :: rs, h, s => by
    simp only [List.all_cons, Bool.and_eq_true] at h
    show lockL rs (lockR r s) = s
    rw [lockR_im h.1]
    exact lockL_im h.2 s
section
variable {F : Nat → Fn} {C : Nat → PyData} {X : Cx} {G : Gm} {K : PySem.W.Frag}
theorem comp2_core {e : Ex} {tg tg1 : Tg} {k k1 : Ik} {its its1 cs : List Ex} {own : List (Str × Nat)} (htg : ∀ i ∈ tgIx tg, i ∈ own.map (·.2)) (htg1 : ∀ i ∈ tgIx tg1, i ∈ own.map (·.2)) {σ : L2.St} {H : Hp} {Q : VK} (h : tE F C K (.comp2 e tg k its tg1 k1 its1 cs own) σ H Q) :
    tLc2 (iE F C K k its) (gT K tg) (tC F C K []) (iE F C K k1 its1) (gT K tg1) (tC F C K cs) (tE F C K e) (own.map (·.2)) (tgIx tg1) σ H Q := by
  obtain ⟨s, Z, B, r, s', R, ev, kk⟩ := h
  simp only [Ev.eval] at ev
  generalize hvs : own.map (·.2) = vs at *
  split at ev
  · rename_i rs s1 el
    split at ev
    · rename_i ds ed
      split at ev
      · rename_i hfree
        split at ev
        · rename_i accF s2 ego
          simp only [Option.some.injEq, Prod.mk.injEq] at ev
          obtain ⟨rfl, rfl⟩ := ev
          refine ⟨s, Z, B, rs, s1, ds, R, el, ed, fun J H1 Z1 vsI P g0 walk rp hold D hD => ?_⟩
          have R1 := g0.rel
          have nB : ¬ B D := fun z => by
            obtain ⟨o, q, _⟩ := R1.bt D z
            rw [hD] at q
            cases q
          -- the block's start
          have fr1 := freeS_lockL rs s1 vs hfree
          have Rl : Rel K H1 σ (lockL rs s1) Z1 B := Rel.lockL (s := s1) rs R1
          have ownS : ∀ i b, Z1 i = some b → ∃ d, (wipeS (lockL rs s1) vs)[i]? = some (.ow d) ∨ (wipeS (lockL rs s1) vs)[i]? = some (.lk d) := fun i b hz => by
            obtain ⟨d, q, _, _⟩ := Rl.own i b hz
            refine ⟨d, ?_⟩
            have hi : i ∉ vs := fun z => (freeS_at fr1 z d).1.elim (q.elim id fun q => absurd q (freeS_at fr1 z d).2)
            rw [wipeS_get, if_neg (fun z => hi z.1)]
            exact q
          have ssow : ∀ (i : Nat) d, (wipeS (lockL rs s1) vs)[i]? = some (Sl.ow d) → (lockL rs s1)[i]? = some (Sl.ow d) := fun i d q => by
            rw [wipeS_get] at q
            split at q
            · cases q
            · exact q
          have start : Gr K (fun b => b = D ∨ B b) (wipe σ vs) H1 (wipeS (lockL rs s1) vs) Z1 (upd H1 D (.lst [])) (wipeS (lockL rs s1) vs) Z1 := by
            have R2 := (Gr.wipe (Rel.more Rl hD (o := .lst []) trivial) fr1).rel
            have ns : ∀ b o, H1 b = some o → upd H1 D (.lst []) b = some o := fun b o q => by rw [upd_ne (ne_of_none q hD)]; exact q
            exact ⟨R2, fun b o q _ => ns b o q, fun b o q => ⟨o, ns b o q⟩, fun _ _ q => .inl q, fun _ _ q => ⟨q, rfl⟩, rfl, fun _ h => h⟩
          -- seen from the start
          have seen : ∀ {Hx : Hp} {sx : Stt} {Zx : Nat → Option Addr} {σx : L2.St}, Gr K (fun b => b = D ∨ B b) σx H1 (wipeS (lockL rs s1) vs) Z1 Hx sx Zx → Same (Hid H1 (hd Z1 B)) (Hid Hx (hd Zx (fun b => b = D ∨ B b))) := fun {Hx sx Zx σx} g b o q => by
            obtain ⟨n, q⟩ := hid_some.mp q
            have hb := ne_of_none q hD
            refine g.seen b o (hid_some.mpr ⟨?_, q⟩)
            rintro (z | z | z)
            · exact n (.inl z)
            · exact hb z
            · exact n (.inr z)
          replace ego : compGo (fun (d : PyData) (acc : List PyData) (t : Stt) => match bindT tg d t with
            | some t1 => match Ev.evalL F C its1 t1 with
              | some (rs1, t2) => match itD k1 rs1 with
                | some ds1 => if freeS t2 (tgIx tg1) && rs1.all isIm then
                    (match compGo (fun d acc t => turnD F C tg1 cs e (tgIx tg1) d acc t) ds1 acc (wipeS t2 (tgIx tg1)) with
                    | some (acc, t3) => if freeS t3 vs then some (acc, wipeS t3 vs) else none
                    | none => none) else none
                | none => none
              | none => none
            | none => none) ds [] (wipeS (lockL rs s1) vs) = some (accF, s2) := ego
          generalize hturn : (fun (d : PyData) (acc : List PyData) (t : Stt) => match bindT tg d t with
            | some t1 => match Ev.evalL F C its1 t1 with
              | some (rs1, t2) => match itD k1 rs1 with
                | some ds1 => if freeS t2 (tgIx tg1) && rs1.all isIm then
                    (match compGo (fun d acc t => turnD F C tg1 cs e (tgIx tg1) d acc t) ds1 acc (wipeS t2 (tgIx tg1)) with
                    | some (acc, t3) => if freeS t3 vs then some (acc, wipeS t3 vs) else none
                    | none => none) else none
                | none => none
              | none => none
            | none => none) = turn at ego
          refine loop2_it walk (body := fun σ2 H2 N => tC F C K [] σ2 H2 fun b H3 => if b = true then iE F C K k1 its1 σ2 H3 fun J1 H4 => ∃ W1 : Nat → Nat → Hp → Prop, (∃ m, W1 0 m H4) ∧ ∀ j k H, W1 j k H →
            (J1.stop j H ∧ N H) ∨ (J1.go j H ∧ ∃ Nx1 : Hp → Prop, (∀ H', Nx1 H' → ∃ k', k' < k ∧ W1 (j + 1) k' H') ∧ ∀ x H', J1.yld j H x H' → gT K tg1 x (wipe σ2 (tgIx tg1)) H' fun σ3 H5 => wipe σ3 (tgIx tg1) = wipe σ2 (tgIx tg1) ∧ tC F C K cs σ3 H5 fun b H6 =>
              if b = true then tE F C K e σ3 H6 fun y H7 => ∃ acc, H7 D = some (.lst acc) ∧ acc.length < sizeLine ∧ Nx1 (upd H7 D (.lst (acc ++ [y]))) else Nx1 H6) else N H3)
            (fun i Hx => ∃ sx Zx acc accV, Gr K (fun b => b = D ∨ B b) (wipe σ vs) H1 (wipeS (lockL rs s1) vs) Z1 Hx sx Zx ∧ Hx D = some (.lst accV) ∧ RpL K (Hid Hx (hd Zx (fun b => b = D ∨ B b))) acc accV ∧
            compGo turn (ds.drop i) acc sx = some (accF, s2)) ?h0 ?hG ?hs ?hd
          case h0 => exact ⟨_, _, [], [], start, upd_same, .nil, by rw [List.drop_zero]; exact ego⟩
          case hG =>
            rintro i Hx hi ⟨sx, Zx, acc, accV, g, _⟩
            exact hold Hx fun b o q n _ => g.keep b o q fun j d hj => n j d (ssow j d hj)
          case hs =>
            rintro i x Hx hi ⟨sx, Zx, acc, accV, g, hDx, racc, go⟩ hx
            obtain ⟨d, hd', rpd⟩ := rp.get' hx
            rw [List.drop_eq_getElem_cons hi] at go
            have hdi : ds[i] = d := by
              have := List.getElem?_eq_getElem hi
              rw [hd'] at this
              exact (Option.some.inj this).symm
            rw [hdi] at go
            simp only [compGo] at go
            cases ht : turn d acc sx with
            | none => rw [ht] at go; cases go
            | some pr =>
              obtain ⟨acc', sx'⟩ := pr
              rw [ht] at go
              simp only at go
              rw [← hturn] at ht
              simp only at ht
              cases eb : bindT tg d sx with
              | none => rw [eb] at ht; cases ht
              | some t1 =>
                rw [eb] at ht
                simp only at ht
                refine ⟨sx, Zx, _, d, t1, g.rel, Rp.mono (seen g) _ _ rpd, eb, fun σ2 Z2 g1 hl1 hb => ?_⟩
                have hb' := hb.mono htg
                have hw : wipe σ2 vs = wipe σ vs := (wipe_but hb').trans (wipe_but (But.wipe σ vs))
                refine ⟨hw, ?_⟩
                refine ⟨t1, Z2, _, true, t1, g1.rel, rfl, fun H3 Z3 g2 => iteT ?_⟩
                cases el1 : Ev.evalL F C its1 t1 with
                | none => rw [el1] at ht; cases ht
                | some p1 =>
                  obtain ⟨rs1, t2⟩ := p1
                  rw [el1] at ht
                  simp only at ht
                  cases ed1 : itD k1 rs1 with
                  | none => rw [ed1] at ht; cases ht
                  | some ds1 =>
                    rw [ed1] at ht
                    simp only at ht
                    split at ht
                    · rename_i hc1
                      rw [Bool.and_eq_true] at hc1
                      refine ⟨t1, Z3, _, rs1, t2, ds1, g2.rel, el1, ed1, fun J1 H4 Z4 vsI1 P1 g3 walk1 rp1 hold1 => ?_⟩
                      cases eg : compGo (fun d acc t => turnD F C tg1 cs e (tgIx tg1) d acc t) ds1 acc (wipeS t2 (tgIx tg1)) with
                      | none => rw [eg] at ht; cases ht
                      | some p3 =>
                        obtain ⟨acc3, t3⟩ := p3
                        rw [eg] at ht
                        simp only at ht
                        split at ht
                        · rename_i hf3
                          cases ht
                          have hlk : lockL rs1 t2 = t2 := lockL_im hc1.2 t2
                          rw [hlk] at hold1
                          -- where the inner loop begins
                          have stay : ∀ {Ha Hb : Hp} {sa sb : Stt} {Za Zb : Nat → Option Addr} {σa σb : L2.St}, Rel K Ha σa sa Za (fun b => b = D ∨ B b) → Gr K (fun b => b = D ∨ B b) σb Ha sa Za Hb sb Zb → Ha D = some (.lst accV) → Hb D = some (.lst accV) := fun {Ha Hb sa sb Za Zb σa σb} Ra ga q =>
                            ga.keep D _ q fun j d _ z => Ra.nb j D z (.inl rfl)
                          have g23 := g2.trans g1.rel g3
                          have g13 := g1.trans g.rel g23
                          have gA := Gr.trans' ownS g g13
                          have hD4 := stay g2.rel g3 (stay g1.rel g2 (stay g.rel g1 hDx))
                          have racc4 : RpL K (Hid H4 (hd Z4 (fun b => b = D ∨ B b))) acc accV := RpL.mono g13.seen _ _ racc
                          have gw4 := Gr.wipe gA.rel hc1.1
                          have own4 : ∀ i b, Z4 i = some b → ∃ d, (wipeS t2 (tgIx tg1))[i]? = some (.ow d) ∨ (wipeS t2 (tgIx tg1))[i]? = some (.lk d) := fun i b z => by
                            obtain ⟨d, q, _⟩ := gw4.rel.own i b z
                            exact ⟨d, q⟩
                          have own4' : ∀ i b, Z4 i = some b → ∃ d, t2[i]? = some (.ow d) ∨ t2[i]? = some (.lk d) := fun i b z => by
                            obtain ⟨d, q, _⟩ := gA.rel.own i b z
                            exact ⟨d, q⟩
                          have start4 : Gr K (fun b => b = D ∨ B b) (wipe σ2 (tgIx tg1)) (cut H4 D) (wipeS t2 (tgIx tg1)) Z4 H4 (wipeS t2 (tgIx tg1)) Z4 :=
                            ⟨gw4.rel, fun b o q _ => (cut_some q).2, fun b o q => ⟨o, (cut_some q).2⟩, fun _ _ q => .inl q, fun _ _ q => ⟨q, rfl⟩, rfl, fun _ q => q⟩
                          have ow4 : ∀ (i : Nat) d, (wipeS t2 (tgIx tg1))[i]? = some (Sl.ow d) → t2[i]? = some (Sl.ow d) := fun i d q => by
                            rw [wipeS_get] at q
                            split at q
                            · cases q
                            · exact q
                          refine loop_it walk1 (fun j Hy => ∃ sy Zy ac acV, Gr K (fun b => b = D ∨ B b) (wipe σ2 (tgIx tg1)) (cut H4 D) (wipeS t2 (tgIx tg1)) Z4 Hy sy Zy ∧ Hy D = some (.lst acV) ∧ RpL K (Hid Hy (hd Zy (fun b => b = D ∨ B b))) ac acV ∧
                            compGo (fun d acc t => turnD F C tg1 cs e (tgIx tg1) d acc t) (ds1.drop j) ac sy = some (acc', t3)) ?k0 ?kG ?ks ?kd
                          case k0 => exact ⟨_, _, acc, accV, start4, hD4, racc4, by rw [List.drop_zero]; exact eg⟩
                          case kG =>
                            rintro j Hy hj ⟨sy, Zy, ac, acV, gy, _⟩
                            exact hold1 Hy fun b o q n nb => gy.keep b o (by rw [cut_ne (fun z => nb (.inl z))]; exact q) fun i d hi => n i d (ow4 i d hi)
                          case ks =>
                            rintro j y Hy hj ⟨sy, Zy, ac, acV, gy, hDy, racy, goy⟩ hy
                            obtain ⟨d1, hd1', rpd1⟩ := rp1.get' hy
                            rw [List.drop_eq_getElem_cons hj] at goy
                            have hdj : ds1[j] = d1 := by
                              have := List.getElem?_eq_getElem hj
                              rw [hd1'] at this
                              exact (Option.some.inj this).symm
                            rw [hdj] at goy
                            simp only [compGo] at goy
                            cases hty : turnD F C tg1 cs e (tgIx tg1) d1 ac sy with
                            | none => rw [hty] at goy; cases goy
                            | some py =>
                              obtain ⟨ac', sy'⟩ := py
                              rw [hty] at goy
                              simp only at goy
                              have seen4 : Same (Hid H4 (hd Z4 (fun b => b = D ∨ B b))) (Hid Hy (hd Zy (fun b => b = D ∨ B b))) := fun b o q => by
                                obtain ⟨n, q⟩ := hid_some.mp q
                                exact gy.seen b o (hid_some.mpr ⟨n, by rw [cut_ne (fun z => n (.inr (.inl z)))]; exact q⟩)
                              exact turn_core (fun i hi => hi) cut_self own4 gy hDy racy (Rp.mono seen4 _ _ rpd1) hty fun H' Z' accV' gn hDn rn => ⟨sy', Z', ac', accV', gn, hDn, rn, goy⟩
                          case kd =>
                            rintro Hy ⟨sy, Zy, ac, acV, gy, hDy, racy, goy⟩
                            rw [List.drop_length] at goy
                            simp only [compGo, Option.some.injEq, Prod.mk.injEq] at goy
                            obtain ⟨rfl, rfl⟩ := goy
                            have gE := Gr.transD hD ownS (Gr.trans' ownS gA gw4) gy
                            have gw := Gr.wipe gE.rel hf3
                            have hww : wipe (wipe σ2 (tgIx tg1)) vs = wipe σ vs := by
                              rw [← hw]
                              exact wipe_but ((But.wipe σ2 (tgIx tg1)).mono htg1)
                            rw [hww] at gw
                            exact ⟨_, Zy, _, acV, Gr.trans' ownS gE gw, hDy, racy, go⟩
                        · cases ht
                    · cases ht
          case hd =>
            rintro Hn ⟨sx, Zx, acc, accV, g, hDn, racc, go⟩
            rw [List.drop_length] at go
            simp only [compGo, Option.some.injEq, Prod.mk.injEq] at go
            obtain ⟨rfl, rfl⟩ := go
            have Rn := g.rel
            have hle : ∀ b, hd Zx B b → hd Zx (fun b => b = D ∨ B b) b := fun b z => z.elim .inl fun z => .inr (.inr z)
            have hsB := hid_mono (H := Hn) hle
            have ln : sx.length = s1.length := by rw [g.len, wipeS_len, lockL_len]
            -- slots that hold a list are not the block's
            have ninv : ∀ i a, Zx i = some a → i ∉ vs := fun i a hz hi => by
              obtain ⟨_, _, q, _⟩ := Rn.own i a hz
              rw [wipe_get] at q
              split at q
              · cases q
              · rename_i hc
                exact hc ⟨hi, (List.getElem?_eq_some_iff.mp q).1⟩
            have blen : (backS s1 (unlockL rs s1 sx) vs).length = s1.length := by rw [backS_len, unlockL_len, ln]
            have bget : ∀ i, i ∉ vs → (backS s1 (unlockL rs s1 sx) vs)[i]? = (unlockL rs s1 sx)[i]? := fun i hi => by
              rw [backS_get, if_neg (fun z => hi z.1)]
            have bin : ∀ i, i ∈ vs → i < s1.length → (backS s1 (unlockL rs s1 sx) vs)[i]? = s1[i]? := fun i hi hl => by
              rw [backS_get, if_pos ⟨hi, by rw [unlockL_len, ln]; exact hl⟩, List.getElem?_eq_getElem hl]
              rfl
            -- what an unlocked slot holds
            have ulk : ∀ (i : Nat) d, s1[i]? = some (Sl.ow d) → (lockL rs s1)[i]? = some (Sl.lk d) → sx[i]? = some (Sl.lk d) := fun i d q1 q2 => by
              have hi : i ∉ vs := fun z => (freeS_at hfree z d).1 q1
              have : (wipeS (lockL rs s1) vs)[i]? = some (.lk d) := by rw [wipeS_get, if_neg (fun z => hi z.1)]; exact q2
              exact (g.lck i d this).1
            have relN : Rel K Hn σ (backS s1 (unlockL rs s1 sx) vs) Zx B := by
              refine ⟨by rw [blen]; exact R1.ls, Rn.inj, fun i a hz z => Rn.nb i a hz (.inr z), fun i a hz => ?_, fun i d q => ?_, fun i d q => ?_, fun b z => Rn.bt b (.inr z)⟩
              · obtain ⟨d, q, e1, t⟩ := Rn.own i a hz
                have hi := ninv i a hz
                rw [wipe_get, if_neg (fun z => hi z.1)] at e1
                refine ⟨d, ?_, e1, t.mono (fun _ z => z) hsB⟩
                rw [bget i hi]
                have hil : i < sx.length := by
                  rcases q with q | q <;> exact (List.getElem?_eq_some_iff.mp q).1
                rcases unlockL_get rs s1 sx i hil with u | ⟨d', u1, u2, u3⟩
                · rw [u]; exact q
                · have := ulk i d' u1 u2
                  rcases q with q | q
                  · rw [this] at q; cases q
                  · rw [this] at q; cases q
                    exact .inl u3
              · have hil : i < s1.length := by rw [← blen]; exact (List.getElem?_eq_some_iff.mp q).1
                by_cases hi : i ∈ vs
                · rw [bin i hi hil] at q
                  obtain ⟨v, e1, t⟩ := R1.im i d q
                  exact ⟨v, e1, Rp.mono hsB _ _ (Rp.mono (seen g) _ _ t)⟩
                · rw [bget i hi] at q
                  rcases unlockL_get rs s1 sx i (by rw [ln]; exact hil) with u | ⟨d', u1, u2, u3⟩
                  · rw [u] at q
                    obtain ⟨v, e1, t⟩ := Rn.im i d q
                    rw [wipe_get, if_neg (fun z => hi z.1)] at e1
                    exact ⟨v, e1, Rp.mono hsB _ _ t⟩
                  · rw [u3] at q; cases q
              · have hil : i < s1.length := by
                  rw [← blen]
                  rcases q with q | q <;> exact (List.getElem?_eq_some_iff.mp q).1
                by_cases hi : i ∈ vs
                · rw [bin i hi hil] at q
                  have := freeS_at hfree hi d
                  exact (q.elim this.1 this.2).elim
                · rw [bget i hi] at q
                  rcases unlockL_get rs s1 sx i (by rw [ln]; exact hil) with u | ⟨d', u1, u2, u3⟩
                  · rw [u] at q
                    exact Rn.has i d q
                  · exact Rn.has i d' (.inr (ulk i d' u1 u2))
            have gN : Gr K B σ H1 s1 Z1 Hn (backS s1 (unlockL rs s1 sx) vs) Zx := by
              refine ⟨relN, fun b o q n => g.keep b o q fun i d hi => n i d ?_, g.tr, g.new, fun i d q => ?_, blen, g.pin⟩
              · have := ssow i d hi
                rcases lockL_get rs s1 i with u | ⟨d', _, u2⟩
                · rw [← u]; exact this
                · rw [u2] at this; cases this
              · have hi : i ∉ vs := fun z => (freeS_at hfree z d).2 q
                have hil := (List.getElem?_eq_some_iff.mp q).1
                have q1 : (wipeS (lockL rs s1) vs)[i]? = some (.lk d) := by rw [wipeS_get, if_neg (fun z => hi z.1)]; exact lockL_lk rs s1 i d q
                obtain ⟨q2, q3⟩ := g.lck i d q1
                refine ⟨?_, q3⟩
                rw [bget i hi]
                rcases unlockL_get rs s1 sx i (by rw [ln]; exact hil) with u | ⟨d', u1, _, _⟩
                · rw [u]; exact q2
                · rw [q] at u1; cases u1
            refine kk _ Hn Zx (g0.trans R gN) ⟨D, rfl, fun i z => Rn.nb i D z (.inl rfl), nB, g0.old D hD, accV, hDn, RpL.mono (hid_mono fun b z => ?_) _ _ racc⟩
            rcases z with z | z | z
            · exact .inr (.inl z)
            · exact .inl z
            · exact .inr (.inr z)
        · cases ev
      · cases ev
    · cases ev
  · cases ev
theorem snd_comp2 (W : Wd X G F C) {elt tgE iter tgE1 iter1 : Expr} {ifs1 : List Expr} {scope : Scope} {pos : Pos} {e : Ex} {tg tg1 : Tg} {k k1 : Ik} {its its1 cs : List Ex} {own : List (Str × Nat)} (hI : SndI F C X iter k its) (ok : BlkOk X.N X.env.scope scope own)
    (htg : ∀ i ∈ tgIx tg, i ∈ own.map (·.2)) (htg1 : ∀ i ∈ tgIx tg1, i ∈ own.map (·.2)) (hg : ∀ (s : Shared) (H : Hp) (A : Addr) (cl : List (Str × Addr)) (fp : List Addr), SndT (X.blk s H scope (compEnvC scope cl A X.env) fp) tg tgE)
    (hI1 : ∀ (s : Shared) (H : Hp) (A : Addr) (cl : List (Str × Addr)) (fp : List Addr), SndI F C (X.blk s H scope (compEnvC scope cl A X.env) fp) iter1 k1 its1)
    (hg1 : ∀ (s : Shared) (H : Hp) (A : Addr) (cl : List (Str × Addr)) (fp : List Addr), SndT (X.blk s H scope (compEnvC scope cl A X.env) fp) tg1 tgE1)
    (hc : ∀ (s : Shared) (H : Hp) (A : Addr) (cl : List (Str × Addr)) (fp : List Addr), SndC F C (X.blk s H scope (compEnvC scope cl A X.env) fp) ifs1 cs)
    (he : ∀ (s : Shared) (H : Hp) (A : Addr) (cl : List (Str × Addr)) (fp : List Addr), Snd F C (X.blk s H scope (compEnvC scope cl A X.env) fp) elt e)
    (wb : ∀ (s : Shared) (H : Hp) (A : Addr) (cl : List (Str × Addr)) (fp : List Addr), Wd (X.blk s H scope (compEnvC scope cl A X.env) fp) G F C) (hf1 : Fine iter1) :
    Snd F C X (.ListComp elt [⟨tgE, iter, [], 0⟩, ⟨tgE1, iter1, ifs1, 0⟩] scope pos) (.comp2 e tg k its tg1 k1 its1 cs own) := by
  refine snd_val (PE.imp (pe_lc2 (g := gT X.K tg) (g1 := gT X.K tg1) (tt := tC F C X.K []) (tt1 := tC F C X.K cs) (wi1 := iE F C X.K k1 its1) (te := tE F C X.K e) (own := own) (vs1 := tgIx tg1) W.calm W.nd (hI.pi W) ok htg1 (fun s H A cl fp => (hg s H A cl fp).pg (wb s H A cl fp)) (fun s H A cl fp => SndC.nil.pts) (fun s H A cl fp => (hI1 s H A cl fp).pi (wb s H A cl fp))
    (fun s H A cl fp => (hg1 s H A cl fp).pg (wb s H A cl fp)) (fun s H A cl fp => (hc s H A cl fp).pts) (fun s H A cl fp => (he s H A cl fp).pe) (fun x => hI.fine.fold _ x) (fun env x => hf1.fold env x)) fun σ H Q h => comp2_core htg htg1 h) (by intro _; rfl) (fun _ _ _ z => nomatch z) trivial
end
end Ev

/-! Ev9: the checker (a program's expression is told by one of the small language), and that it is right. -/
namespace Ev
open PySem PySem.Spec PyProof.Rows L2
def fineB : Expr → Bool
  | .Starred _ _ | .Set _ _ _ | .Slice _ _ _ _ => false
  | _ => true
theorem fineB_ok {e : Expr} (h : fineB e = true) : Fine e := by
  cases e <;> first | trivial | cases h
def visB (sc : Scope) (x : Str) : Bool := match sc.names.lookup x with
  | some .local | some .cell | some .free => true
  | _ => false
def gloB (sc : Scope) (x : Str) : Bool := match sc.names.lookup x with
  | some .globalImplicit => !(x == ("__debug__" : Str))
  | _ => false
def stoB (N : List Str) (sc : Scope) (cell : Str → Bool) (i : Nat) : Expr → Bool
  | .Name x _ => decide (N[i]? = some x) && (match sc.names.lookup x with
    | some .local => true
    | some .cell => cell x
    | _ => false)
  | _ => false
def stoLB (N : List Str) (sc : Scope) (cell : Str → Bool) : List Nat → List Expr → Bool
  | [], [] => true
  | i :: is, e :: es => stoB N sc cell i e && stoLB N sc cell is es
  | _, _ => false
def tgB (N : List Str) (sc : Scope) (cell : Str → Bool) (tg : Tg) (e : Expr) : Bool := match tg with
  | .n i => stoB N sc cell i e
  | .t is => match e with
    | .Tuple es _ _ => stoLB N sc cell is es
    | _ => false
def csB (d : PyData) (e : Expr) : Bool := match d, e with
  | .none, .Constant .none _ _ => true
  | .bool b, .Constant (.bool b') _ _ => b == b'
  | .int i, .Constant (.int j) _ _ => i == j
  | .str s, .Constant (.str t) _ _ => s == t
  | .int i, .UnaryOp .USub (.Constant (.int j) _ _) _ => i == -j
  | _, _ => false
def ikE (k : Ik) (sc : Scope) (it : Expr) : Option (List Expr) := match k with
  | .ex => some [it]
  | .r1 => match it with
    | .Call (.Name x _) [a] [] _ => if x == ("range" : Str) && gloB sc x then some [a] else none
    | _ => none
  | .r2 => match it with
    | .Call (.Name x _) [a, b] [] _ => if x == ("range" : Str) && gloB sc x then some [a, b] else none
    | _ => none
section
variable (G : Gm)
mutual
def chk (sc : Scope) (cell : Str → Bool) : Ex → Expr → Bool
  | .nm i, e => match e with
    | .Name x _ => decide (G.N[i]? = some x) && visB sc x && !(x == ("__debug__" : Str)) && !(x == ("__classdict__" : Str))
    | _ => false
  | .mv i, e => match e with
    | .Name x _ => decide (G.N[i]? = some x) && visB sc x && !(x == ("__debug__" : Str)) && !(x == ("__classdict__" : Str))
    | _ => false
  | .cs d, e => csB d e
  | .gl g, e => match e with
    | .Name x _ => decide (G.gl[g]? = some x) && gloB sc x
    | _ => false
  | .bin o a b, e => match e with
    | .BinOp x op y _ => decide (op = boOp o) && chk sc cell a x && chk sc cell b y
    | _ => false
  | .cmp o a b, e => match e with
    | .Compare x [op] [y] _ => decide (op = coOp o) && chk sc cell a x && chk sc cell b y
    | _ => false
  | .chn o1 o2 a b c, e => match e with
    | .Compare x [op1, op2] [y, z] _ => decide (op1 = coOp o1) && decide (op2 = coOp o2) && chk sc cell a x && chk sc cell b y && chk sc cell c z
    | _ => false
  | .and a b, e => match e with
    | .BoolOp .And (x :: y :: rest) pos => chk sc cell a x && (match rest with
      | [] => chk sc cell b y
      | r :: rs => chk sc cell b (.BoolOp .And (y :: r :: rs) pos))
    | _ => false
  | .or a b, e => match e with
    | .BoolOp .Or (x :: y :: rest) pos => chk sc cell a x && (match rest with
      | [] => chk sc cell b y
      | r :: rs => chk sc cell b (.BoolOp .Or (y :: r :: rs) pos))
    | _ => false
  | .not a, e => match e with
    | .UnaryOp .Not x _ => chk sc cell a x
    | _ => false
  | .ife c a b, e => match e with
    | .IfExp z x y _ => chk sc cell c z && chk sc cell a x && chk sc cell b y
    | _ => false
  | .tup es, e => match e with
    | .Tuple xs _ _ => chkL sc cell es xs
    | _ => false
  | .lst es, e => match e with
    | .List xs _ => chkL sc cell es xs
    | _ => false
  | .dic t es, e => match es, e with
    | [], .Dict [] [] _ => true
    | [.cs d, .cs d'], .Dict [some k] [v] _ => !t && isKey d && csB d k && csB d' v
    | _, _ => false
  | .sub a b, e => match e with
    | .Subscript x y _ => chk sc cell a x && chk sc cell b y
    | _ => false
  | .slc a lo hi, e => match e with
    | .Subscript x (.Slice l h none _) _ => chk sc cell a x && chkL sc cell lo l.toList && chkL sc cell hi h.toList
    | _ => false
  | .rev _, _ => false
  | .call f es, e => match e with
    | .Call (.Name x _) xs [] _ => decide (G.fn[f]? = some (x, es.length)) && gloB sc x && chkL sc cell es xs
    | _ => false
  | .calli f i es, e => match e with
    | .Call (.Name x _) (.Name y _ :: xs) [] _ => decide (G.fn[f]? = some (x, es.length + 1)) && gloB sc x && decide (G.N[i]? = some y) && visB sc y && !(y == ("__debug__" : Str)) && !(y == ("__classdict__" : Str)) && chkL sc cell es xs
    | _ => false
  | .b1 b a, e => match e with
    | .Call (.Name x _) [y] [] _ => decide (x = b1Name b) && gloB sc x && chk sc cell a y
    | _ => false
  | .b2 o a c, e => match e with
    | .Call (.Name x _) [y, z] [] _ => decide (x = b2Name o) && gloB sc x && chk sc cell a y && chk sc cell c z
    | _ => false
  | .isi a t, e => match e with
    | .Call (.Name x _) [y, .Name z _] [] _ => x == ("isinstance" : Str) && gloB sc x && decide (z = tyN t) && gloB sc z && chk sc cell a y
    | _ => false
  | .mt m a b, e => match e with
    | .Call (.Attribute x name apos) [y] [] pos => noCall x && (apos.endLine == pos.line) && (match m with
      | .join => name == ("join" : Str)
      | .startswith => name == ("startswith" : Str)
      | _ => false) && chk sc cell a x && chk sc cell b y
    | _ => false
  | .comp e0 tg k its cs own, e => match e with
    | .ListComp elt [⟨tgE, it, ifs, ia⟩] scope _ => decide (ia = 0) && (match ikE k sc it with
      | some xs => chkL sc cell its xs
      | none => false) && blkC G.N sc scope own && (tgIx tg).all (fun i => decide (i ∈ own.map (·.2))) && tgB G.N (relS scope sc) (fun x => scope.names.lookup x == some .cell) tg tgE &&
      decide (cs.length ≤ 1) && chkL (relS scope sc) (fun x => scope.names.lookup x == some .cell) cs ifs && chk (relS scope sc) (fun x => scope.names.lookup x == some .cell) e0 elt
    | _ => false
  | .comp2 e0 tg k its tg1 k1 its1 cs own, e => match e with
    | .ListComp elt [⟨tgE, it, ifs, ia⟩, ⟨tgE1, it1, ifs1, ia1⟩] scope _ => fineB it1 && (decide (ia = 0) && (decide (ia1 = 0) && (ifs.isEmpty && ((match ikE k sc it with
      | some xs => chkL sc cell its xs
      | none => false) && (blkC G.N sc scope own && ((tgIx tg).all (fun i => decide (i ∈ own.map (·.2))) && ((tgIx tg1).all (fun i => decide (i ∈ own.map (·.2))) && (tgB G.N (relS scope sc) (fun x => scope.names.lookup x == some .cell) tg tgE &&
      (tgB G.N (relS scope sc) (fun x => scope.names.lookup x == some .cell) tg1 tgE1 && ((match ikE k1 (relS scope sc) it1 with
      | some xs => chkL (relS scope sc) (fun x => scope.names.lookup x == some .cell) its1 xs
      | none => false) && (decide (cs.length ≤ 1) && (chkL (relS scope sc) (fun x => scope.names.lookup x == some .cell) cs ifs1 && chk (relS scope sc) (fun x => scope.names.lookup x == some .cell) e0 elt))))))))))))
    | _ => false
def chkL (sc : Scope) (cell : Str → Bool) : List Ex → List Expr → Bool
  | [], [] => true
  | i :: is, e :: es => chk sc cell i e && chkL sc cell is es
  | _, _ => false
end
end

section
variable {F : Nat → Fn} {C : Nat → PyData} {X : Cx} {G : Gm} {sc : Scope} {cell : Str → Bool}
/-- the scope and the cells are as the checker has them -/
structure At (X : Cx) (sc : Scope) (cell : Str → Bool) : Prop where
  sc : X.env.scope = sc
  fn : ∀ x, cell x = true → X.fn x = true
theorem At.vis (A : At X sc cell) {x : Str} (h : visB sc x = true) : Vis X.env.scope x := by
  unfold visB at h
  rw [← A.sc] at h
  split at h
  · exact .inl (by assumption)
  · exact .inr (.inl (by assumption))
  · exact .inr (.inr (by assumption))
  · cases h
theorem At.gl (A : At X sc cell) {x : Str} (h : gloB sc x = true) : Gl X x ∧ (x == ("__debug__" : Str)) = false := by
  unfold gloB at h
  rw [← A.sc] at h
  split at h
  · rename_i q
    exact ⟨q, by simpa using h⟩
  · cases h
theorem At.sto (A : At X sc cell) (W : Wd X G F C) {i : Nat} {e : Expr} (h : stoB G.N sc cell i e = true) : Sto X i e := by
  unfold stoB at h
  split at h
  · rename_i x pos
    rw [Bool.and_eq_true, decide_eq_true_eq] at h
    obtain ⟨h1, h2⟩ := h
    refine ⟨x, pos, rfl, by rw [W.nN]; exact h1, ?_⟩
    rw [← A.sc] at h2
    split at h2
    · rename_i q
      exact ⟨.inl q, .inr q⟩
    · rename_i q
      exact ⟨.inr q, .inl (A.fn x h2)⟩
    · cases h2
  · cases h
theorem At.stoL (A : At X sc cell) (W : Wd X G F C) : ∀ {is : List Nat} {es : List Expr}, stoLB G.N sc cell is es = true → StoL X is es
  | [], [], _ => .nil
  | i :: is, e :: es, h => by
    simp only [stoLB, Bool.and_eq_true] at h
    exact .cons (A.sto W h.1) (A.stoL W h.2)
  | [], _ :: _, h => by cases h
  | _ :: _, [], h => by cases h
theorem At.tg (A : At X sc cell) (W : Wd X G F C) {tg : Tg} {e : Expr} (h : tgB G.N sc cell tg e = true) : SndT X tg e := by
  unfold tgB at h
  split at h
  · exact .n (A.sto W h)
  · split at h
    · exact .t (A.stoL W h)
    · cases h
theorem csB_pe {d : PyData} {e : Expr} (h : csB d e = true) : ∃ v, PE X e (L2.tC v) ∧ (∀ K H, Rp K H d v) ∧ (isKey d = true → ∃ k, v = kV k ∧ d = keyD k) := by
  unfold csB at h
  split at h
  · exact ⟨_, pe_non, fun _ _ => rp_of_non, fun z => (by cases z)⟩
  · have := eq_of_beq h
    subst this
    exact ⟨_, pe_bl, fun _ _ => rp_of_bl, fun z => (by cases z)⟩
  · have := eq_of_beq h
    subst this
    exact ⟨_, pe_int, fun _ _ => rp_of_int, fun _ => ⟨.inl _, rfl, rfl⟩⟩
  · have := eq_of_beq h
    subst this
    exact ⟨_, pe_str, fun _ _ => rp_of_str, fun _ => ⟨.inr _, rfl, rfl⟩⟩
  · have := eq_of_beq h
    subst this
    rename_i j _ _ _
    refine ⟨.int (-j), PE.imp (pe_un un_neg pe_int) fun σ H Q q => ⟨j, rfl, q⟩, fun _ _ => rp_of_int, fun _ => ⟨.inl _, rfl, rfl⟩⟩
  · cases h
theorem csB_snd {d : PyData} {e : Expr} (h : csB d e = true) : Snd F C X e (.cs d) := by
  obtain ⟨v, hv, hr, _⟩ := csB_pe (X := X) h
  unfold csB at h
  split at h
  · exact snd_cs hv (hr _) (by intro _; rfl) (fun _ _ _ z => nomatch z) trivial
  · exact snd_cs hv (hr _) (by intro _; rfl) (fun _ _ _ z => nomatch z) trivial
  · exact snd_cs hv (hr _) (by intro _; rfl) (fun _ _ _ z => nomatch z) trivial
  · exact snd_cs hv (hr _) (by intro _; rfl) (fun _ _ _ z => nomatch z) trivial
  · exact snd_cs hv (hr _) (by intro _; rfl) (fun _ _ _ z => nomatch z) trivial
  · cases h
theorem fresh_dict {K : PySem.W.Frag} {σ : L2.St} {H : Hp} {s : Stt} {H0 : Hp} {Z : Nat → Option Addr} {B : Addr → Prop} {kvs : List (PyData × PyData)} {ks : List (Key × V)} {p : Addr} (R : Rel K H σ s Z B) (hp : H p = none) (h0 : H0 p = none) (t : RpK K (Hid H (Ev.hd Z B)) kvs ks) : ROk K H0 (upd H p (.dK ks)) Z B ⟨.fr, .dict kvs⟩ (.ref p) := by
  obtain ⟨n1, n2⟩ := lay_fresh R hp
  refine ⟨p, rfl, n1, n2, h0, .inl ⟨ks, upd_same, RpK.mono (fun b o e => ?_) _ _ t⟩⟩
  obtain ⟨n, e⟩ := hid_some.mp e
  have hb := ne_of_none e hp
  exact hid_some.mpr ⟨fun z => z.elim hb n, by rw [upd_ne hb]; exact e⟩
theorem fresh_dictT {K : PySem.W.Frag} {σ : L2.St} {H : Hp} {s : Stt} {H0 : Hp} {Z : Nat → Option Addr} {B : Addr → Prop} {kvs : List (PyData × PyData)} {ks : List (List Key × V)} {p : Addr} (R : Rel K H σ s Z B) (hp : H p = none) (h0 : H0 p = none) (t : RpT K (Hid H (Ev.hd Z B)) kvs ks) : ROk K H0 (upd H p (.dT ks)) Z B ⟨.fr, .dict kvs⟩ (.ref p) := by
  obtain ⟨n1, n2⟩ := lay_fresh R hp
  refine ⟨p, rfl, n1, n2, h0, .inr ⟨ks, upd_same, RpT.mono (fun b o e => ?_) _ _ t⟩⟩
  obtain ⟨n, e⟩ := hid_some.mp e
  have hb := ne_of_none e hp
  exact hid_some.mpr ⟨fun z => z.elim hb n, by rw [upd_ne hb]; exact e⟩
theorem snd_dic0 {t : Bool} {pos : Pos} : Snd F C X (.Dict [] [] pos) (.dic t []) := by
  have key : ∀ {σ H} {Q : VK}, tE F C X.K (.dic t []) σ H Q → ∃ s Z B, Rel X.K H σ s Z B ∧ ∀ v H' Z', Gr X.K B σ H s Z H' s Z' → ROk X.K H H' Z' B ⟨.fr, .dict []⟩ v → Q v H' := by
    rintro σ H Q ⟨s, Z, B, r, s', R, e, k⟩
    simp only [Ev.eval, Ev.evalL, Option.some.injEq, Prod.mk.injEq] at e
    obtain ⟨rfl, rfl⟩ := e
    exact ⟨s, Z, B, R, k⟩
  cases t with
  | false =>
    refine snd_val (PE.imp pe_dnewK fun σ H Q h => ?_) (by intro _; rfl) (fun _ _ _ z => nomatch z) trivial
    obtain ⟨s, Z, B, R, k⟩ := key h
    exact fun p hp => k _ _ Z (Gr.lay R hp) (fresh_dict R hp hp (by simp only [RpK]))
  | true =>
    refine snd_val (PE.imp pe_dnewT fun σ H Q h => ?_) (by intro _; rfl) (fun _ _ _ z => nomatch z) trivial
    obtain ⟨s, Z, B, R, k⟩ := key h
    exact fun p hp => k _ _ Z (Gr.lay R hp) (fresh_dictT R hp hp (by simp only [RpT]))
theorem snd_dic1 {d d' : PyData} {k v : Expr} {pos : Pos} (hk : isKey d = true) (h1 : csB d k = true) (h2 : csB d' v = true) : Snd F C X (.Dict [some k] [v] pos) (.dic false [.cs d, .cs d']) := by
  obtain ⟨x, px, _, kx⟩ := csB_pe (X := X) h1
  obtain ⟨y, py, ry, _⟩ := csB_pe (X := X) h2
  obtain ⟨q, rfl, rfl⟩ := kx hk
  refine snd_val (PE.imp (pe_disp (pps_cons px py pps_nil) rfl rfl (fun z => by cases z) (by simp)) fun σ H Q h => ?_) (by intro _; rfl) (fun _ _ _ z => nomatch z) trivial
  obtain ⟨s, Z, B, r, s', R, e, kk⟩ := h
  simp only [Ev.eval, Ev.evalL, lockR, unlockR] at e
  rw [if_pos (by rw [hk]; rfl)] at e
  cases e
  intro p hp
  refine ⟨upd_same, [(q, y)], rfl, by simp, ?_⟩
  rw [upd_upd]
  have : mergeK [] [(q, y)] = [(q, y)] := by simp [mergeK, putK]
  rw [this]
  exact kk _ _ Z (Gr.lay R hp) (fresh_dict R hp hp (by simp only [RpK]; exact ⟨q, y, [], rfl, rfl, ry _ _, rfl⟩))
theorem sndO_of {o : Option Expr} {irs : List Ex} (h : SndL F C X o.toList irs) : SndO F C X o irs := by
  cases o with
  | none => cases h; exact .none
  | some e =>
    cases h with
    | cons h t =>
      cases t
      exact .some h
theorem sndC_of {ifs : List Expr} {cs : List Ex} (h : SndL F C X ifs cs) (hl : cs.length ≤ 1) : SndC F C X ifs cs := by
  cases h with
  | nil => exact .nil
  | cons h t =>
    cases t with
    | nil => exact .one h
    | cons _ _ => simp only [List.length_cons] at hl; omega
theorem sndI_of (A : At X sc cell) {k : Ik} {it : Expr} {xs : List Expr} {its : List Ex} (e : ikE k sc it = some xs) (h : SndL F C X xs its) : SndI F C X it k its := by
  unfold ikE at e
  split at e
  · cases e
    cases h with
    | cons h t => cases t; exact .ex h
  · split at e
    · split at e
      · rename_i hc
        rw [Bool.and_eq_true] at hc
        cases e
        have hx := eq_of_beq hc.1
        cases hx
        cases h with
        | cons h t => cases t; exact .r1 h (A.gl hc.2).1
      · cases e
    · cases e
  · split at e
    · split at e
      · rename_i hc
        rw [Bool.and_eq_true] at hc
        cases e
        have hx := eq_of_beq hc.1
        cases hx
        cases h with
        | cons h t =>
          cases t with
          | cons h2 t => cases t; exact .r2 h h2 (A.gl hc.2).1
      · cases e
    · cases e
theorem Wd.blk (W : Wd X G F C) (s : Shared) (H : Hp) (scope : Scope) (A : Addr) (cl : List (Str × Addr)) (fp : List Addr) : Wd (X.blk s H scope (compEnvC scope cl A X.env) fp) G F C :=
  ⟨W.calm, W.nN, W.nd, W.bn, W.gc, fun f x n h => ⟨(W.fns f x n h).ex⟩, W.un⟩
theorem At.blk (A : At X sc cell) (s : Shared) (H : Hp) (scope : Scope) (a : Addr) (cl : List (Str × Addr)) (fp : List Addr) : At (X.blk s H scope (compEnvC scope cl a X.env) fp) (relS scope sc) (fun x => scope.names.lookup x == some .cell) :=
  ⟨by rw [← A.sc]; rfl, fun x h => h⟩
mutual
theorem sndE : ∀ (ir : Ex) (e : Expr) (X : Cx) (sc : Scope) (cell : Str → Bool), Wd X G F C → At X sc cell → chk G sc cell ir e = true → Snd F C X e ir
  | .nm i, e, X, sc, cell, W, A, h => by
    simp only [chk] at h
    split at h
    · simp only [Bool.and_eq_true, decide_eq_true_eq, Bool.not_eq_true'] at h
      exact snd_nm (by rw [W.nN]; exact h.1.1.1) (A.vis h.1.1.2) h.1.2 h.2
    · cases h
  | .mv i, e, X, sc, cell, W, A, h => by
    simp only [chk] at h
    split at h
    · simp only [Bool.and_eq_true, decide_eq_true_eq, Bool.not_eq_true'] at h
      exact snd_mv (by rw [W.nN]; exact h.1.1.1) (A.vis h.1.1.2) h.1.2 h.2
    · cases h
  | .cs d, e, X, sc, cell, W, A, h => by
    simp only [chk] at h
    exact csB_snd h
  | .gl g, e, X, sc, cell, W, A, h => by
    simp only [chk] at h
    split at h
    · simp only [Bool.and_eq_true, decide_eq_true_eq] at h
      exact snd_gl W h.1 (A.gl h.2).1 (A.gl h.2).2
    · cases h
  | .bin o a b, e, X, sc, cell, W, A, h => by
    simp only [chk] at h
    split at h
    · simp only [Bool.and_eq_true, decide_eq_true_eq] at h
      rw [h.1.1]
      exact snd_bin (sndE a _ X sc cell W A h.1.2) (sndE b _ X sc cell W A h.2)
    · cases h
  | .cmp o a b, e, X, sc, cell, W, A, h => by
    simp only [chk] at h
    split at h
    · simp only [Bool.and_eq_true, decide_eq_true_eq] at h
      rw [h.1.1]
      exact snd_cmp W.un (sndE a _ X sc cell W A h.1.2) (sndE b _ X sc cell W A h.2)
    · cases h
  | .chn o1 o2 a b c, e, X, sc, cell, W, A, h => by
    simp only [chk] at h
    split at h
    · simp only [Bool.and_eq_true, decide_eq_true_eq] at h
      rw [h.1.1.1.1, h.1.1.1.2]
      exact snd_chn W.un (sndE a _ X sc cell W A h.1.1.2) (sndE b _ X sc cell W A h.1.2) (sndE c _ X sc cell W A h.2)
    · cases h
  | .and a b, e, X, sc, cell, W, A, h => by
    simp only [chk] at h
    split at h
    · rename_i x y rest pos
      rw [Bool.and_eq_true] at h
      refine snd_and (sndE a _ X sc cell W A h.1) ?_
      have h2 := h.2
      split at h2
      · exact .inl ⟨rfl, sndE b _ X sc cell W A h2⟩
      · exact .inr ⟨by simp, sndE b _ X sc cell W A h2⟩
    · cases h
  | .or a b, e, X, sc, cell, W, A, h => by
    simp only [chk] at h
    split at h
    · rename_i x y rest pos
      rw [Bool.and_eq_true] at h
      refine snd_or (sndE a _ X sc cell W A h.1) ?_
      have h2 := h.2
      split at h2
      · exact .inl ⟨rfl, sndE b _ X sc cell W A h2⟩
      · exact .inr ⟨by simp, sndE b _ X sc cell W A h2⟩
    · cases h
  | .not a, e, X, sc, cell, W, A, h => by
    simp only [chk] at h
    split at h
    · exact snd_not (sndE a _ X sc cell W A h)
    · cases h
  | .ife c a b, e, X, sc, cell, W, A, h => by
    simp only [chk] at h
    split at h
    · simp only [Bool.and_eq_true] at h
      exact snd_ife (sndE c _ X sc cell W A h.1.1) (sndE a _ X sc cell W A h.1.2) (sndE b _ X sc cell W A h.2)
    · cases h
  | .tup es, e, X, sc, cell, W, A, h => by
    simp only [chk] at h
    split at h
    · exact snd_tup (sndL es _ X sc cell W A h)
    · cases h
  | .lst es, e, X, sc, cell, W, A, h => by
    simp only [chk] at h
    split at h
    · exact snd_lst (sndL es _ X sc cell W A h)
    · cases h
  | .dic t es, e, X, sc, cell, W, A, h => by
    simp only [chk] at h
    split at h
    · exact snd_dic0
    · simp only [Bool.and_eq_true, Bool.not_eq_true'] at h
      obtain ⟨⟨⟨h0, h1⟩, h2⟩, h3⟩ := h
      subst h0
      exact snd_dic1 h1 h2 h3
    · cases h
  | .sub a b, e, X, sc, cell, W, A, h => by
    simp only [chk] at h
    split at h
    · rw [Bool.and_eq_true] at h
      exact snd_sub (sndE a _ X sc cell W A h.1) (sndE b _ X sc cell W A h.2)
    · cases h
  | .slc a lo hi, e, X, sc, cell, W, A, h => by
    simp only [chk] at h
    split at h
    · simp only [Bool.and_eq_true] at h
      exact snd_slc (sndE a _ X sc cell W A h.1.1) (sndO_of (sndL lo _ X sc cell W A h.1.2)) (sndO_of (sndL hi _ X sc cell W A h.2))
    · cases h
  | .rev a, e, X, sc, cell, W, A, h => by
    simp only [chk] at h
    cases h
  | .call f es, e, X, sc, cell, W, A, h => by
    simp only [chk] at h
    split at h
    · simp only [Bool.and_eq_true, decide_eq_true_eq] at h
      exact snd_call (sndL es _ X sc cell W A h.2) (W.fns f _ _ h.1.1) (A.gl h.1.2).1 (A.gl h.1.2).2 rfl
    · cases h
  | .calli f i es, e, X, sc, cell, W, A, h => by
    simp only [chk] at h
    split at h
    · simp only [Bool.and_eq_true, decide_eq_true_eq, Bool.not_eq_true'] at h
      exact snd_calli (by rw [W.nN]; exact h.1.1.1.1.2) (A.vis h.1.1.1.2) h.1.1.2 h.1.2 (sndL es _ X sc cell W A h.2) (W.fns f _ _ h.1.1.1.1.1.1) (A.gl h.1.1.1.1.1.2).1 (A.gl h.1.1.1.1.1.2).2 rfl
    · cases h
  | .b1 b a, e, X, sc, cell, W, A, h => by
    simp only [chk] at h
    split at h
    · simp only [Bool.and_eq_true, decide_eq_true_eq] at h
      obtain ⟨⟨h1, h2⟩, h3⟩ := h
      subst h1
      exact snd_b1 W (sndE a _ X sc cell W A h3) (A.gl h2).1
    · cases h
  | .b2 b a c, e, X, sc, cell, W, A, h => by
    simp only [chk] at h
    split at h
    · simp only [Bool.and_eq_true, decide_eq_true_eq] at h
      obtain ⟨⟨⟨h1, h2⟩, h3⟩, h4⟩ := h
      subst h1
      exact snd_b2 W (sndE a _ X sc cell W A h3) (sndE c _ X sc cell W A h4) (A.gl h2).1
    · cases h
  | .isi a t, e, X, sc, cell, W, A, h => by
    simp only [chk] at h
    split at h
    · simp only [Bool.and_eq_true, decide_eq_true_eq] at h
      obtain ⟨⟨⟨⟨h1, h2⟩, h3⟩, h4⟩, h5⟩ := h
      have h1 := eq_of_beq h1
      subst h1 h3
      exact snd_isi W (sndE a _ X sc cell W A h5) (A.gl h2).1 (A.gl h4).1
    · cases h
  | .mt m a b, e, X, sc, cell, W, A, h => by
    simp only [chk] at h
    split at h
    · simp only [Bool.and_eq_true] at h
      obtain ⟨⟨⟨⟨h1, h2⟩, h3⟩, h4⟩, h5⟩ := h
      split at h3
      · have h3 := eq_of_beq h3
        subst h3
        exact snd_join (sndE a _ X sc cell W A h4) (sndE b _ X sc cell W A h5) h1 h2
      · have h3 := eq_of_beq h3
        subst h3
        exact snd_startswith (sndE a _ X sc cell W A h4) (sndE b _ X sc cell W A h5) h1 h2
      · cases h3
    · cases h
  | .comp e0 tg k its cs own, e, X, sc, cell, W, A, h => by
    simp only [chk] at h
    split at h
    · rename_i elt tgE it ifs ia scope pos
      simp only [Bool.and_eq_true, decide_eq_true_eq, List.all_eq_true] at h
      obtain ⟨⟨⟨⟨⟨⟨⟨h1, h2⟩, h3⟩, h4⟩, h5⟩, h6⟩, h7⟩, h8⟩ := h
      subst h1
      split at h2
      · rename_i xs ek
        refine snd_comp W (sndI_of A ek (sndL its _ X sc cell W A h2)) (by rw [W.nN, A.sc]; exact blkOk_by h3) h4 (fun s H a cl fp => (A.blk s H scope a cl fp).tg (W.blk s H scope a cl fp) h5)
          (fun s H a cl fp => sndC_of (sndL cs _ _ _ _ (W.blk s H scope a cl fp) (A.blk s H scope a cl fp) h7) h6) (fun s H a cl fp => sndE e0 _ _ _ _ (W.blk s H scope a cl fp) (A.blk s H scope a cl fp) h8) (fun s H a cl fp => W.blk s H scope a cl fp)
      · cases h2
    · cases h
  | .comp2 e0 tg k its tg1 k1 its1 cs own, e, X, sc, cell, W, A, h => by
    simp only [chk] at h
    split at h
    · rename_i elt tgE it ifs ia tgE1 it1 ifs1 ia1 scope pos
      simp only [Bool.and_eq_true, decide_eq_true_eq, List.all_eq_true, List.isEmpty_iff] at h
      obtain ⟨h9, h1, h1', h0, h2, h3, h4, h4', h5, h5', h2', h6, h7, h8⟩ := h
      subst h1 h1' h0
      split at h2
      · rename_i xs ek
        split at h2'
        · rename_i xs1 ek1
          have hI1 : ∀ (s : Shared) (H : Hp) (a : Addr) (cl : List (Str × Addr)) (fp : List Addr), SndI F C (X.blk s H scope (compEnvC scope cl a X.env) fp) it1 k1 its1 := fun s H a cl fp => sndI_of (A.blk s H scope a cl fp) ek1 (sndL its1 _ _ _ _ (W.blk s H scope a cl fp) (A.blk s H scope a cl fp) h2')
          refine snd_comp2 W (sndI_of A ek (sndL its _ X sc cell W A h2)) (by rw [W.nN, A.sc]; exact blkOk_by h3) h4 h4' (fun s H a cl fp => (A.blk s H scope a cl fp).tg (W.blk s H scope a cl fp) h5) hI1 (fun s H a cl fp => (A.blk s H scope a cl fp).tg (W.blk s H scope a cl fp) h5')
            (fun s H a cl fp => sndC_of (sndL cs _ _ _ _ (W.blk s H scope a cl fp) (A.blk s H scope a cl fp) h7) h6) (fun s H a cl fp => sndE e0 _ _ _ _ (W.blk s H scope a cl fp) (A.blk s H scope a cl fp) h8) (fun s H a cl fp => W.blk s H scope a cl fp) (fineB_ok h9)
        · cases h2'
      · cases h2
    · cases h
theorem sndL : ∀ (irs : List Ex) (es : List Expr) (X : Cx) (sc : Scope) (cell : Str → Bool), Wd X G F C → At X sc cell → chkL G sc cell irs es = true → SndL F C X es irs
  | [], [], X, sc, cell, W, A, h => .nil
  | i :: is, e :: es, X, sc, cell, W, A, h => by
    simp only [chkL, Bool.and_eq_true] at h
    exact .cons (sndE i e X sc cell W A h.1) (sndL is es X sc cell W A h.2)
  | [], _ :: _, X, sc, cell, W, A, h => by simp only [chkL] at h; cases h
  | _ :: _, [], X, sc, cell, W, A, h => by simp only [chkL] at h; cases h
end
end
end Ev

/-! Ev10: statements: what they compute, and that the program's do so. -/
namespace Ev
open PySem PySem.Spec PyProof.Rows L2
/-- how a statement ends -/
inductive Fl where
  | nx | bk | ct | rt (d : PyData) | rf (d : PyData)
abbrev Ro := Option (Fl × Stt)
def putR (s : Stt) (i : Nat) (r : Rs) : Option Stt := if isIm r then putS s i (.im r.d) else none
def whileN (c : Stt → Option (Rs × Stt)) (b : Stt → Ro) : Nat → Stt → Ro
  | 0, _ => none
  | n + 1, s => match c s with
    | some (⟨_, .bool true⟩, s1) => match b s1 with
      | some (.nx, s2) => whileN c b n s2
      | some (.ct, s2) => whileN c b n s2
      | some (.bk, s2) => some (.nx, s2)
      | r => r
    | some (⟨_, .bool false⟩, s1) => some (.nx, s1)
    | _ => none
open Classical in
noncomputable def whileW (c : Stt → Option (Rs × Stt)) (b : Stt → Ro) (s : Stt) : Ro :=
  if h : ∃ n r, whileN c b n s = some r then some (Classical.choose (Classical.choose_spec h)) else none
theorem whileN_more {c : Stt → Option (Rs × Stt)} {b : Stt → Ro} {r : Fl × Stt} : ∀ {n : Nat} {s : Stt}, whileN c b n s = some r → whileN c b (n + 1) s = some r
  | 0, s, h => by cases h
  | n + 1, s, h => by
    unfold whileN at h ⊢
    split at h
    · split at h
      · exact whileN_more h
      · exact whileN_more h
      · exact h
      · exact h
    · exact h
    · cases h
theorem whileN_le {c : Stt → Option (Rs × Stt)} {b : Stt → Ro} {r : Fl × Stt} {n m : Nat} {s : Stt} (h : whileN c b n s = some r) (l : n ≤ m) : whileN c b m s = some r := by
  induction l with
  | refl => exact h
  | step _ ih => exact whileN_more ih
theorem whileW_of {c : Stt → Option (Rs × Stt)} {b : Stt → Ro} {r : Fl × Stt} {n : Nat} {s : Stt} (h : whileN c b n s = some r) : whileW c b s = some r := by
  have e : ∃ n r, whileN c b n s = some r := ⟨n, r, h⟩
  unfold whileW
  rw [dif_pos e]
  have q := Classical.choose_spec (Classical.choose_spec e)
  have q1 := whileN_le q (Nat.le_max_left _ n)
  have q2 := whileN_le h (Nat.le_max_right (Classical.choose e) n)
  rw [q1] at q2
  exact q2
theorem whileW_some {c : Stt → Option (Rs × Stt)} {b : Stt → Ro} {r : Fl × Stt} {s : Stt} (h : whileW c b s = some r) : ∃ n, whileN c b n s = some r := by
  unfold whileW at h
  split at h
  · rename_i e
    have q := Classical.choose_spec (Classical.choose_spec e)
    rw [← Option.some.inj h]
    exact ⟨_, q⟩
  · cases h
/-- a turn more -/
theorem whileW_turn {c : Stt → Option (Rs × Stt)} {b : Stt → Ro} {s s1 s2 : Stt} {k : Kd} {r : Fl × Stt} (hc : c s = some (⟨k, .bool true⟩, s1)) (hb : b s1 = some (.nx, s2)) (h : whileW c b s2 = some r) : whileW c b s = some r := by
  obtain ⟨n, h⟩ := whileW_some h
  refine whileW_of (n := n + 1) ?_
  unfold whileN
  rw [hc]
  simp only [hb]
  exact h
theorem whileW_end {c : Stt → Option (Rs × Stt)} {b : Stt → Ro} {s s1 : Stt} {k : Kd} (hc : c s = some (⟨k, .bool false⟩, s1)) : whileW c b s = some (.nx, s1) := by
  refine whileW_of (n := 1) ?_
  unfold whileN
  rw [hc]
def forGo (turn : PyData → Stt → Ro) : List PyData → Stt → Ro
  | [], s => some (.nx, s)
  | d :: ds, s => match turn d s with
    | some (.nx, s') => forGo turn ds s'
    | some (.ct, s') => forGo turn ds s'
    | some (.bk, s') => some (.nx, s')
    | r => r
def setD (p : PyData) (k : PyData) (d : PyData) : Option PyData :=
  match p, k with
  | .list ds, .int i => (ixN ds.length i).map fun j => .list (ds.set j d)
  | _, _ => none
section
variable (F : Nat → Fn) (C : Nat → PyData)
mutual
noncomputable def run : Sx → Stt → Ro
  | .set i o e, s => match eval F C e s with
    | some (r, s1) => if o then none else (putR s1 i r).map fun t => (.nx, t)
    | none => none
  | .unp is e, s => match eval F C e s with
    | some (r, s1) => if isIm r then (bindT (.t is) r.d s1).map fun t => (.nx, t) else none
    | none => none
  | .par i j oi oj a b, s => match eval F C a s with
    | some (ra, s1) => match eval F C b s1 with
      | some (rb, s2) => if isIm ra && !oi && !oj then (match putR s2 i ra with
        | some t => (putR t j rb).map fun t => (.nx, t)
        | none => none) else none
      | none => none
    | none => none
  | .aug _ _ _, _ => none
  | .exp e, s => (eval F C e s).map fun p => (.nx, p.2)
  | .app _ _, _ => none
  | .ext _ _, _ => none
  | .put i k e, s => match eval F C e s with
    | some (r, s1) => if isIm r then (match s1[i]? with
      | some (.ow p) => match eval F C k (s1.set i (.lk p)) with
        | some (rk, s2) => (setD p rk.d r.d).map fun p' => (.nx, s2.set i (.ow p'))
        | none => none
      | _ => none) else none
    | none => none
  | .ret e, s => match eval F C e s with
    | some (r, s1) => if isIm r then some (.rt r.d, s1) else none
    | none => none
  | .retf e, s => match eval F C e s with
    | some (⟨.fr, d⟩, s1) => some (.rf d, s1)
    | _ => none
  | .new i f es, s => match evalL F C es s with
    | some (rs, s1) => if rs.all isIm && (F f).fr && !(F f).io then (match (F f).sem (rs.map (·.d)) with
      | some (d, _) => (putS s1 i (.ow d)).map fun t => (.nx, t)
      | none => none) else none
    | none => none
  | .ite c a b, s => match eval F C c s with
    | some (⟨_, .bool true⟩, s1) => runL a s1
    | some (⟨_, .bool false⟩, s1) => runL b s1
    | _ => none
  | .whl c b, s => whileW (eval F C c) (runL b) s
  | .for tg k its b, s => match evalL F C its s with
    | some (rs, s1) => match itD k rs with
      | some ds => (forGo (fun d t => match bindT tg d t with
        | some t1 => runL b t1
        | none => none) ds (lockL rs s1)).map fun p => (p.1, unlockL rs s1 p.2)
      | none => none
    | none => none
  | .brk, s => some (.bk, s)
  | .cnt, s => some (.ct, s)
  | .pass, s => some (.nx, s)
noncomputable def runL : List Sx → Stt → Ro
  | [], s => some (.nx, s)
  | i :: is, s => match run i s with
    | some (.nx, s1) => runL is s1
    | r => r
end
end

section
variable {F : Nat → Fn} {C : Nat → PyData} {X : Cx} {G : Gm} {K : PySem.W.Frag} {σ : L2.St} {H : Hp} {D : Ends}
/-- the ends -/
def kS (K : PySem.W.Frag) (B : Addr → Prop) (H : Hp) (s : Stt) (Z : Nat → Option Addr) (f : Fl) (s' : Stt) (D : Ends) : Prop :=
  match f with
  | .nx => ∀ σ' H' Z', Gr K B σ' H s Z H' s' Z' → D.nx σ' H'
  | .bk => ∀ σ' H' Z', Gr K B σ' H s Z H' s' Z' → D.bk σ' H'
  | .ct => ∀ σ' H' Z', Gr K B σ' H s Z H' s' Z' → D.ct σ' H'
  | .rt d => ∀ v σ' H' Z', Gr K B σ' H s Z H' s' Z' → Rp K (Hid H' (hd Z' B)) d v → D.rt v H'
  | .rf d => ∀ v σ' H' Z', Gr K B σ' H s Z H' s' Z' → ROk K H H' Z' B ⟨.fr, d⟩ v → D.rt v H'
def tS (F : Nat → Fn) (C : Nat → PyData) (K : PySem.W.Frag) (ir : Sx) : TS := fun D σ H => ∃ s Z B f s', Rel K H σ s Z B ∧ run F C ir s = some (f, s') ∧ kS K B H s Z f s' D
def tSL (F : Nat → Fn) (C : Nat → PyData) (K : PySem.W.Frag) (irs : List Sx) : TS := fun D σ H => ∃ s Z B f s', Rel K H σ s Z B ∧ runL F C irs s = some (f, s') ∧ kS K B H s Z f s' D
theorem kS.next {B : Addr → Prop} {s s1 s' : Stt} {Z Z1 : Nat → Option Addr} {H1 : Hp} {σ1 : L2.St} {f : Fl} (R : Rel K H σ s Z B) (g : Gr K B σ1 H s Z H1 s1 Z1) (k : kS K B H s Z f s' D) : kS K B H1 s1 Z1 f s' D := by
  cases f with
  | nx => exact fun σ' H' Z' g' => k σ' H' Z' (g.trans R g')
  | bk => exact fun σ' H' Z' g' => k σ' H' Z' (g.trans R g')
  | ct => exact fun σ' H' Z' g' => k σ' H' Z' (g.trans R g')
  | rt d => exact fun v σ' H' Z' g' r => k v σ' H' Z' (g.trans R g') r
  | rf d => exact fun v σ' H' Z' g' r => k v σ' H' Z' (g.trans R g') (r.older g.old)
theorem PS.imp {st : Stmt} {t t' : TS} (h : PS X st t) (k : ∀ D σ H, t' D σ H → t D σ H) : PS X st t' := ⟨fun pins s σ H D I q => h.run pins s σ H D I (k D σ H q)⟩
theorem PSs.imp {st : List Stmt} {t t' : TS} (h : PSs X st t) (k : ∀ D σ H, t' D σ H → t D σ H) : PSs X st t' := ⟨fun pins s σ H D I q => h.run pins s σ H D I (k D σ H q)⟩

theorem sds_nil : PSs X [] (tSL F C X.K []) := by
  refine PSs.imp pss_nil fun D σ H h => ?_
  obtain ⟨s, Z, B, f, s', R, e, k⟩ := h
  simp only [runL, Option.some.injEq, Prod.mk.injEq] at e
  obtain ⟨rfl, rfl⟩ := e
  exact k σ H Z (.refl R)
theorem sds_cons {st : Stmt} {sts : List Stmt} {i : Sx} {is : List Sx} (h1 : PS X st (tS F C X.K i)) (h2 : PSs X sts (tSL F C X.K is)) : PSs X (st :: sts) (tSL F C X.K (i :: is)) := by
  refine PSs.imp (pss_cons h1 h2) fun D σ H h => ?_
  obtain ⟨s, Z, B, f, s', R, e, k⟩ := h
  simp only [runL] at e
  cases e1 : run F C i s with
  | none => rw [e1] at e; cases e
  | some p =>
    obtain ⟨f1, s1⟩ := p
    rw [e1] at e
    refine ⟨s, Z, B, f1, s1, R, e1, ?_⟩
    cases f1 with
    | nx => exact fun σ1 H1 Z1 g => ⟨s1, Z1, B, f, s', g.rel, e, k.next R g⟩
    | bk => cases e; exact k
    | ct => cases e; exact k
    | rt d => cases e; exact k
    | rf d => cases e; exact k
theorem sds_one {st : Stmt} {i : Sx} (h1 : PS X st (tS F C X.K i)) : PSs X [st] (tSL F C X.K [i]) := sds_cons h1 sds_nil

theorem sd_pass {pos : Pos} : PS X (.Pass pos) (tS F C X.K .pass) := by
  refine PS.imp ps_pass fun D σ H h => ?_
  obtain ⟨s, Z, B, f, s', R, e, k⟩ := h
  simp only [run, Option.some.injEq, Prod.mk.injEq] at e
  obtain ⟨rfl, rfl⟩ := e
  exact k σ H Z (.refl R)
theorem sd_brk {pos : Pos} : PS X (.Break pos) (tS F C X.K .brk) := by
  refine PS.imp ps_break fun D σ H h => ?_
  obtain ⟨s, Z, B, f, s', R, e, k⟩ := h
  simp only [run, Option.some.injEq, Prod.mk.injEq] at e
  obtain ⟨rfl, rfl⟩ := e
  exact k σ H Z (.refl R)
theorem sd_cnt {pos : Pos} : PS X (.Continue pos) (tS F C X.K .cnt) := by
  refine PS.imp ps_continue fun D σ H h => ?_
  obtain ⟨s, Z, B, f, s', R, e, k⟩ := h
  simp only [run, Option.some.injEq, Prod.mk.injEq] at e
  obtain ⟨rfl, rfl⟩ := e
  exact k σ H Z (.refl R)
theorem sd_ret {e : Expr} {ir : Ex} {pos : Pos} (he : Snd F C X e ir) : PS X (.Return (some e) pos) (tS F C X.K (.ret ir)) := by
  refine PS.imp (ps_ret he.pe) fun D σ H h => ?_
  obtain ⟨s, Z, B, f, s', R, e, k⟩ := h
  simp only [run] at e
  split at e
  · rename_i r s1 ea
    split at e
    · rename_i hi
      cases e
      exact ⟨s, Z, B, r, _, R, ea, fun v H1 Z1 g o => k v σ H1 Z1 g (o.im hi)⟩
    · cases e
  · cases e
theorem sd_exp {e : Expr} {ir : Ex} {pos : Pos} (he : Snd F C X e ir) (hs : swapsWith e none pos.line X.env = pure false) : PS X (.Expr e pos) (tS F C X.K (.exp ir)) := by
  refine PS.imp (ps_expr he.pe hs) fun D σ H h => ?_
  obtain ⟨s, Z, B, f, s', R, e, k⟩ := h
  simp only [run, Option.map_eq_some_iff] at e
  obtain ⟨⟨r, s1⟩, ea, e⟩ := e
  cases e
  exact ⟨s, Z, B, r, _, R, ea, fun v H1 Z1 g o => k σ H1 Z1 g⟩
theorem sd_ite {c : Expr} {ic : Ex} {a b : List Stmt} {ia ib : List Sx} {pos : Pos} (hc : Snd F C X c ic) (ha : PSs X a (tSL F C X.K ia)) (hb : PSs X b (tSL F C X.K ib)) : PS X (.If c a b pos) (tS F C X.K (.ite ic ia ib)) := by
  refine PS.imp (ps_if hc.pt ha hb) fun D σ H h => ?_
  obtain ⟨s, Z, B, f, s', R, e, k⟩ := h
  simp only [run] at e
  split at e
  · rename_i k1 s1 ea
    exact ⟨s, Z, B, _, _, R, ea, fun v H1 Z1 g o => ⟨true, rp_bl o.rp, iteT ⟨s1, Z1, B, f, s', g.rel, e, k.next R g⟩⟩⟩
  · rename_i k1 s1 ea
    exact ⟨s, Z, B, _, _, R, ea, fun v H1 Z1 g o => ⟨false, rp_bl o.rp, iteF ⟨s1, Z1, B, f, s', g.rel, e, k.next R g⟩⟩⟩
  · cases e
theorem sd_whl (W : Wd X G F C) {c : Expr} {ic : Ex} {b : List Stmt} {ib : List Sx} {pos : Pos} (hp : PassesOwn (model X.prog X.w) X.A X.env X.xe) (hc : Snd F C X c ic) (hb : PSs X b (tSL F C X.K ib)) : PS X (.While c b [] pos) (tS F C X.K (.whl ic ib)) := by
  refine PS.imp (ps_while hp hc.pt hb) fun D σ H h => ?_
  obtain ⟨s, Z, B, f, s', R, e, k⟩ := h
  simp only [run] at e
  obtain ⟨m, e⟩ := whileW_some e
  refine ⟨fun m σx Hx => ∃ sx Zx, Gr X.K B σx H s Z Hx sx Zx ∧ whileN (Ev.eval F C ic) (runL F C ib) m sx = some (f, s'), ⟨m, s, Z, .refl R, e⟩, ?_⟩
  rintro m σx Hx ⟨sx, Zx, g, ew⟩
  cases m with
  | zero => cases ew
  | succ m =>
    unfold whileN at ew
    split at ew
    · rename_i k1 s1 ea
      refine ⟨sx, Zx, B, _, _, g.rel, ea, fun v H1 Z1 g1 o => ⟨true, rp_bl o.rp, iteT ?_⟩⟩
      have g2 := g.trans R g1
      refine ⟨fun σ' H' => ∃ s2 Z2, Gr X.K B σ' H s Z H' s2 Z2 ∧ whileN (Ev.eval F C ic) (runL F C ib) m s2 = some (f, s'), fun σ' H' ⟨s2, Z2, g3, e3⟩ => ⟨m, Nat.lt_succ_self _, s2, Z2, g3, e3⟩, ?_⟩
      cases eb : runL F C ib s1 with
      | none => rw [eb] at ew; cases ew
      | some p =>
        obtain ⟨f1, s2⟩ := p
        rw [eb] at ew
        refine ⟨s1, Z1, B, f1, s2, g1.rel, eb, ?_⟩
        cases f1 with
        | nx => exact fun σ' H' Z' g' => ⟨s2, Z', g2.trans R g', ew⟩
        | ct => exact fun σ' H' Z' g' => ⟨s2, Z', g2.trans R g', ew⟩
        | bk =>
          cases ew
          exact fun σ' H' Z' g' => k σ' H' Z' (g2.trans R g')
        | rt d =>
          cases ew
          exact fun v σ' H' Z' g' r => k v σ' H' Z' (g2.trans R g') r
        | rf d =>
          cases ew
          exact fun v σ' H' Z' g' r => k v σ' H' Z' (g2.trans R g') (r.older g2.old)
    · rename_i k1 s1 ea
      cases ew
      exact ⟨sx, Zx, B, _, _, g.rel, ea, fun v H1 Z1 g1 o => ⟨false, rp_bl o.rp, iteF (k σx H1 Z1 (g.trans R g1))⟩⟩
    · cases ew

/-! ### locked and unlocked again -/
theorem Gr.unlockL {K : PySem.W.Frag} : ∀ (rs : List Rs) {σ σ' : L2.St} {H H' : Hp} {s s' : Stt} {Z Z' : Nat → Option Addr} {B : Addr → Prop}, Gr K B σ' H (Ev.lockL rs s) Z H' s' Z' → Gr K B σ' H s Z H' (Ev.unlockL rs s s') Z'
  | [], σ, σ', H, H', s, s', Z, Z', B, g => g
  | r :: rs, σ, σ', H, H', s, s', Z, Z', B, g => by
    have g1 : Gr K B σ' H (lockR r s) Z H' (Ev.unlockL rs (lockR r s) s') Z' := Gr.unlockL (σ := σ) rs g
    exact Gr.unlock r g1
theorem kS.unlock {K : PySem.W.Frag} {H : Hp} {D : Ends} {rs : List Rs} {B : Addr → Prop} {s s' : Stt} {Z : Nat → Option Addr} {f : Fl} (k : kS K B H s Z f (unlockL rs s s') D) : kS K B H (lockL rs s) Z f s' D := by
  cases f with
  | nx => exact fun σ' H' Z' g => k σ' H' Z' (Gr.unlockL (σ := σ') rs g)
  | bk => exact fun σ' H' Z' g => k σ' H' Z' (Gr.unlockL (σ := σ') rs g)
  | ct => exact fun σ' H' Z' g => k σ' H' Z' (Gr.unlockL (σ := σ') rs g)
  | rt d => exact fun v σ' H' Z' g r => k v σ' H' Z' (Gr.unlockL (σ := σ') rs g) r
  | rf d => exact fun v σ' H' Z' g r => k v σ' H' Z' (Gr.unlockL (σ := σ') rs g) r
theorem sd_for (W : Wd X G F C) {tg : Tg} {tgE it : Expr} {ik : Ik} {its : List Ex} {b : List Stmt} {ib : List Sx} {pos : Pos} (hp : PassesOwn (model X.prog X.w) X.A X.env X.xe) (hI : SndI F C X it ik its) (hT : SndT X tg tgE) (hb : PSs X b (tSL F C X.K ib)) :
    PS X (.For tgE it b [] pos) (tS F C X.K (.for tg ik its ib)) := by
  refine PS.imp (ps_for hp W.calm (hI.pi W) (hT.pg W) hb (fun x => hI.fine.fold _ x)) fun D σ H h => ?_
  obtain ⟨s, Z, B, f, s', R, e, k⟩ := h
  simp only [run] at e
  split at e
  · rename_i rs s1 el
    split at e
    · rename_i ds ed
      simp only [Option.map_eq_some_iff] at e
      obtain ⟨⟨f0, s2⟩, ego, e⟩ := e
      cases e
      refine ⟨s, Z, B, rs, s1, ds, R, el, ed, fun J H1 Z1 vsI P g0 walk rp hold => ?_⟩
      have k1 : kS X.K B H1 (lockL rs s1) Z1 f0 s2 D := (k.next R g0).unlock
      have Rl : Rel X.K H1 σ (lockL rs s1) Z1 B := Rel.lockL (s := s1) rs g0.rel
      generalize hturn : (fun (d : PyData) (t : Stt) => match bindT tg d t with
        | some t1 => runL F C ib t1
        | none => none) = turn at ego
      refine for_it walk (fun i σx Hx => ∃ sx Zx, Gr X.K B σx H1 (lockL rs s1) Z1 Hx sx Zx ∧ forGo turn (ds.drop i) sx = some (f0, s2)) ?h0 ?hG ?hs ?hd
      case h0 => exact ⟨_, _, .refl Rl, by rw [List.drop_zero]; exact ego⟩
      case hG =>
        rintro i σx Hx hi ⟨sx, Zx, g, _⟩
        exact hold Hx fun b o q n _ => g.keep b o q n
      case hs =>
        rintro i x σx Hx Hx' hi ⟨sx, Zx, g, go⟩ ⟨rfl, hx⟩
        obtain ⟨d, hd', rpd⟩ := rp.get' hx
        rw [List.drop_eq_getElem_cons hi] at go
        have hdi : ds[i] = d := by
          have := List.getElem?_eq_getElem hi
          rw [hd'] at this
          exact (Option.some.inj this).symm
        rw [hdi] at go
        simp only [forGo] at go
        cases ht : turn d sx with
        | none => rw [ht] at go; cases go
        | some pr =>
          obtain ⟨f1, sx'⟩ := pr
          rw [ht] at go
          rw [← hturn] at ht
          simp only at ht
          cases eb : bindT tg d sx with
          | none => rw [eb] at ht; cases ht
          | some t1 =>
            rw [eb] at ht
            simp only at ht
            refine ⟨sx, Zx, B, d, t1, g.rel, Rp.mono g.seen _ _ rpd, eb, fun σ2 Z2 g1 hl1 hb => ?_⟩
            have g2 := g.trans Rl g1
            refine ⟨t1, Z2, B, f1, sx', g1.rel, ht, ?_⟩
            cases f1 with
            | nx => exact fun σ' H' Z' g' => ⟨sx', Z', g2.trans Rl g', go⟩
            | ct => exact fun σ' H' Z' g' => ⟨sx', Z', g2.trans Rl g', go⟩
            | bk =>
              cases go
              exact fun σ' H' Z' g' => k1 σ' H' Z' (g2.trans Rl g')
            | rt d =>
              cases go
              exact fun v σ' H' Z' g' r => k1 v σ' H' Z' (g2.trans Rl g') r
            | rf d =>
              cases go
              exact fun v σ' H' Z' g' r => k1 v σ' H' Z' (g2.trans Rl g') (r.older g2.old)
      case hd =>
        rintro σx Hx ⟨sx, Zx, g, go⟩
        rw [List.drop_length] at go
        simp only [forGo, Option.some.injEq, Prod.mk.injEq] at go
        obtain ⟨rfl, rfl⟩ := go
        exact k1 σx Hx Zx g
    · cases e
  · cases e

/-! ### stores -/
/-- a new list or dict is a slot's own -/
theorem Gr.birth {K : PySem.W.Frag} {σ : L2.St} {H H' : Hp} {s t : Stt} {Z : Nat → Option Addr} {B : Addr → Prop} {i : Nat} {d : PyData} {a : Addr} (R : Rel K H σ s Z B) (hn : H a = none) (sm : Same H H') (top : Top K H' (Hid H' (fun b => b = a ∨ hd Z B b)) d a)
    (e : putS s i (.ow d) = some t) : ∃ Z', Gr K B (σ.set i (some (.ref a))) H s Z H' t Z' := by
  have nZ : ∀ j, Z j ≠ some a := fun j z => by
    obtain ⟨_, _, _, q⟩ := R.own j a z
    obtain ⟨_, q, _⟩ := q.ld
    rw [hn] at q
    cases q
  have nB : ¬ B a := fun z => by
    obtain ⟨_, q, _⟩ := R.bt a z
    rw [hn] at q
    cases q
  have key : pinned s i = false → s[i]? ≠ none → (∀ d, s[i]? ≠ some (.lk d)) → t = s.set i (.ow d) → ∃ Z', Gr K B (σ.set i (some (.ref a))) H s Z H' t Z' := by
    intro hp h1 h2 ht
    subst ht
    have his : i < s.length := by
      cases q : s[i]? with
      | none => exact absurd q h1
      | some x => exact (List.getElem?_eq_some_iff.mp q).1
    have hiσ : i < σ.length := by rw [← R.ls]; exact his
    have get : ∀ j, j ≠ i → (s.set i (Sl.ow d))[j]? = s[j]? := fun j hj => List.getElem?_set_ne (Ne.symm hj)
    have getσ : ∀ j, j ≠ i → (σ.set i (some (V.ref a)))[j]? = σ[j]? := fun j hj => List.getElem?_set_ne (Ne.symm hj)
    let Z2 : Nat → Option Addr := fun j => if j = i then some a else Z j
    have z2i : Z2 i = some a := if_pos rfl
    have z2n : ∀ j, j ≠ i → Z2 j = Z j := fun j hj => if_neg hj
    have hle : ∀ b, hd Z2 B b → b = a ∨ hd Z B b := by
      rintro b (⟨j, hj⟩ | hb)
      · by_cases e : j = i
        · rw [e, z2i] at hj
          cases hj
          exact .inl rfl
        · rw [z2n j e] at hj
          exact .inr (.inl ⟨j, hj⟩)
      · exact .inr (.inr hb)
    have hs : Same (Hid H (hd Z B)) (Hid H' (hd Z2 B)) := fun b o q => by
      obtain ⟨n1, q⟩ := hid_some.mp q
      exact hid_some.mpr ⟨fun z => (hle b z).elim (ne_of_none q hn) n1, sm b o q⟩
    refine ⟨Z2, ⟨by rw [List.length_set, List.length_set]; exact R.ls, fun j k b q1 q2 => ?_, fun j b q => ?_, fun j b q => ?_, fun j d' q => ?_, fun j d' q => ?_, fun b z => ?_⟩, fun b o q _ => sm b o q, fun b o q => ⟨o, sm b o q⟩, fun j b q => ?_, fun j d' q => ?_, List.length_set, fun b z => ?_⟩
    · by_cases e1 : j = i <;> by_cases e2 : k = i
      · rw [e1, e2]
      · rw [e1, z2i] at q1
        rw [z2n k e2] at q2
        cases q1
        exact absurd q2 (nZ k)
      · rw [e2, z2i] at q2
        rw [z2n j e1] at q1
        cases q2
        exact absurd q1 (nZ j)
      · rw [z2n j e1] at q1
        rw [z2n k e2] at q2
        exact R.inj j k b q1 q2
    · by_cases e1 : j = i
      · rw [e1, z2i] at q
        cases q
        exact nB
      · rw [z2n j e1] at q
        exact R.nb j b q
    · by_cases e1 : j = i
      · rw [e1, z2i] at q
        cases q
        rw [e1]
        exact ⟨d, .inl (List.getElem?_set_self his), List.getElem?_set_self hiσ, top.mono (fun _ z => z) (hid_mono hle)⟩
      · rw [z2n j e1] at q
        obtain ⟨d', p1, p2, p3⟩ := R.own j b q
        exact ⟨d', by rw [get j e1]; exact p1, by rw [getσ j e1]; exact p2, p3.mono (fun o z => sm b o z) hs⟩
    · by_cases e1 : j = i
      · rw [e1, List.getElem?_set_self his] at q
        cases q
      · rw [get j e1] at q
        obtain ⟨u, p1, p2⟩ := R.im j d' q
        exact ⟨u, by rw [getσ j e1]; exact p1, Rp.mono hs _ _ p2⟩
    · by_cases e1 : j = i
      · rw [e1]
        exact ⟨a, z2i⟩
      · rw [get j e1] at q
        obtain ⟨b, p⟩ := R.has j d' q
        exact ⟨b, by rw [z2n j e1]; exact p⟩
    · obtain ⟨o, q, l⟩ := R.bt b z
      exact ⟨o, sm b o q, l⟩
    · by_cases e1 : j = i
      · rw [e1, z2i] at q
        cases q
        exact .inr hn
      · rw [z2n j e1] at q
        exact .inl q
    · have e1 : j ≠ i := fun z => by rw [z] at q; exact h2 d' q
      exact ⟨by rw [get j e1]; exact q, by rw [z2n j e1]⟩
    · rw [z2n 0 (pin_ne R hp h2 z)]
      exact z
  unfold putS at e
  split at e
  · cases e
  · cases e
  · rename_i h1 h2
    split at e
    · cases e
    · rename_i hp
      cases e
      exact key (by simpa using hp) h2 (fun d' q => h1 d' q) rfl
theorem sd_retf {e : Expr} {ir : Ex} {pos : Pos} (he : Snd F C X e ir) : PS X (.Return (some e) pos) (tS F C X.K (.retf ir)) := by
  refine PS.imp (ps_ret he.pe) fun D σ H h => ?_
  obtain ⟨s, Z, B, f, s', R, e, k⟩ := h
  simp only [run] at e
  split at e
  · rename_i d s1 ea
    cases e
    exact ⟨s, Z, B, _, _, R, ea, fun v H1 Z1 g o => k v σ H1 Z1 g o⟩
  · cases e
/-- slot i from an expression whose reading is known -/
theorem set_core {i : Nat} {ir : Ex} {s s' : Stt} {Z : Nat → Option Addr} {B : Addr → Prop} {f : Fl} (R : Rel K H σ s Z B) (e : run F C (.set i false ir) s = some (f, s')) (k : kS K B H s Z f s' D) : tAsg (tE F C K ir) (gName i) D σ H := by
  simp only [run] at e
  split at e
  · rename_i r s1 ea
    simp only [Bool.false_eq_true, if_false, Option.map_eq_some_iff] at e
    obtain ⟨t, et, e⟩ := e
    cases e
    unfold putR at et
    split at et
    · rename_i hi
      refine ⟨s, Z, B, r, s1, R, ea, fun v H1 Z1 g o => ?_⟩
      obtain ⟨Z2, g2, _⟩ := Gr.bind1 g.rel et (o.im hi)
      exact k _ H1 Z2 (g.trans R g2)
    · cases et
  · cases e
theorem sd_set (W : Wd X G F C) {i : Nat} {e : Expr} {ir : Ex} {tg : Expr} {pos : Pos} (he : Snd F C X e ir) (h : Sto X i tg) (hs : swapsWith e (some tg) pos.line X.env = pure false) : PS X (.Assign [tg] e pos) (tS F C X.K (.set i false ir)) := by
  obtain ⟨x, pos', rfl, h1, h2, h3⟩ := h.ex
  refine PS.imp (ps_set W.nd h1 h2 he.pe hs h3) fun D σ H h => ?_
  obtain ⟨s, Z, B, f, s', R, e, k⟩ := h
  exact set_core R e k
theorem sd_new (W : Wd X G F C) {i f n : Nat} {x : Str} {es : List Expr} {irs : List Ex} {tg : Expr} {p p2 pos : Pos} (h : Sto X i tg) (hl : SndL F C X es irs) (hS : FnS X x n (F f)) (hG : Gl X x) (hdb : (x == ("__debug__" : Str)) = false) (hn : irs.length = n) :
    PS X (.Assign [tg] (.Call (.Name x p) es [] p2) pos) (tS F C X.K (.new i f irs)) := by
  obtain ⟨y, pos', rfl, h1, h2, h3⟩ := h.ex
  refine PS.imp (ps_set W.nd h1 h2 (call_pe hl hS hG hdb) rfl h3) fun D σ H h => ?_
  obtain ⟨s, Z, B, f, s', R, e, k⟩ := h
  simp only [run] at e
  split at e
  · rename_i rs s1 ea
    split at e
    · rename_i hc
      simp only [Bool.and_eq_true, Bool.not_eq_true'] at hc
      split at e
      · rename_i d p' es
        simp only [Option.map_eq_some_iff] at e
        obtain ⟨t, et, e⟩ := e
        cases e
        have hrs : rs.length = n := by
          have := evalL_len ea
          omega
        refine ⟨s, Z, B, rs, _, R, ea, fun vs H1 Z1 g1 o1 => ⟨by rw [o1.len]; exact hrs, hd Z1 B, _, d, p', g1.rel.hide, es, .inr (.inl ⟨hc.2, hc.1.2, o1.im hc.1.1, fun a H' hn top sm => ?_⟩)⟩⟩
        obtain ⟨Z2, g2⟩ := Gr.birth g1.rel hn sm top et
        exact k _ H' Z2 (g1.trans R g2)
      · cases e
    · cases e
  · cases e
/-- name = [..] on one line -/
theorem sd_setc (W : Wd X G F C) {elt tgE iter : Expr} {ifs : List Expr} {scope : Scope} {pos spos py : Pos} {e : Ex} {tg : Tg} {k : Ik} {its cs : List Ex} {own : List (Str × Nat)} {i : Nat} {y : Str} (hy : X.N[i]? = some y) (hyl : X.env.scope.names.lookup y = some .local)
    (hsw : swapsWith (.ListComp elt [⟨tgE, iter, ifs, 0⟩] scope pos) (some (.Name y py)) spos.line X.env = pure true) (hI : SndI F C X iter k its) (ok : BlkOk X.N X.env.scope scope own)
    (htg : ∀ i ∈ tgIx tg, i ∈ own.map (·.2)) (hg : ∀ (s : Shared) (H : Hp) (A : Addr) (cl : List (Str × Addr)) (fp : List Addr), SndT (X.blk s H scope (compEnvC scope cl A X.env) fp) tg tgE)
    (hc : ∀ (s : Shared) (H : Hp) (A : Addr) (cl : List (Str × Addr)) (fp : List Addr), SndC F C (X.blk s H scope (compEnvC scope cl A X.env) fp) ifs cs)
    (he : ∀ (s : Shared) (H : Hp) (A : Addr) (cl : List (Str × Addr)) (fp : List Addr), Snd F C (X.blk s H scope (compEnvC scope cl A X.env) fp) elt e)
    (wb : ∀ (s : Shared) (H : Hp) (A : Addr) (cl : List (Str × Addr)) (fp : List Addr), Wd (X.blk s H scope (compEnvC scope cl A X.env) fp) G F C) :
    PS X (.Assign [.Name y py] (.ListComp elt [⟨tgE, iter, ifs, 0⟩] scope pos) spos) (tS F C X.K (.set i false (.comp e tg k its cs own))) := by
  refine PS.imp (ps_setLc (g := gT X.K tg) (te := tE F C X.K e) (tt := tC F C X.K cs) (own := own) W.calm W.nd hy hyl hsw (hI.pi W) ok (fun s H A cl fp => (hg s H A cl fp).pg (wb s H A cl fp)) (fun s H A cl fp => (hc s H A cl fp).pts) (fun s H A cl fp => (he s H A cl fp).pe) (fun x => hI.fine.fold _ x)) fun D σ H h => ?_
  obtain ⟨s, Z, B, f, s', R, e, k⟩ := h
  exact comp_core htg (set_core R e k)
theorem sd_setc2 (W : Wd X G F C) {elt tgE iter tgE1 iter1 : Expr} {ifs1 : List Expr} {scope : Scope} {pos spos py : Pos} {e : Ex} {tg tg1 : Tg} {k k1 : Ik} {its its1 cs : List Ex} {own : List (Str × Nat)} {i : Nat} {y : Str} (hy : X.N[i]? = some y) (hyl : X.env.scope.names.lookup y = some .local)
    (hsw : swapsWith (.ListComp elt [⟨tgE, iter, [], 0⟩, ⟨tgE1, iter1, ifs1, 0⟩] scope pos) (some (.Name y py)) spos.line X.env = pure true) (hI : SndI F C X iter k its) (ok : BlkOk X.N X.env.scope scope own)
    (htg : ∀ i ∈ tgIx tg, i ∈ own.map (·.2)) (htg1 : ∀ i ∈ tgIx tg1, i ∈ own.map (·.2)) (hg : ∀ (s : Shared) (H : Hp) (A : Addr) (cl : List (Str × Addr)) (fp : List Addr), SndT (X.blk s H scope (compEnvC scope cl A X.env) fp) tg tgE)
    (hI1 : ∀ (s : Shared) (H : Hp) (A : Addr) (cl : List (Str × Addr)) (fp : List Addr), SndI F C (X.blk s H scope (compEnvC scope cl A X.env) fp) iter1 k1 its1)
    (hg1 : ∀ (s : Shared) (H : Hp) (A : Addr) (cl : List (Str × Addr)) (fp : List Addr), SndT (X.blk s H scope (compEnvC scope cl A X.env) fp) tg1 tgE1)
    (hc : ∀ (s : Shared) (H : Hp) (A : Addr) (cl : List (Str × Addr)) (fp : List Addr), SndC F C (X.blk s H scope (compEnvC scope cl A X.env) fp) ifs1 cs)
    (he : ∀ (s : Shared) (H : Hp) (A : Addr) (cl : List (Str × Addr)) (fp : List Addr), Snd F C (X.blk s H scope (compEnvC scope cl A X.env) fp) elt e)
    (wb : ∀ (s : Shared) (H : Hp) (A : Addr) (cl : List (Str × Addr)) (fp : List Addr), Wd (X.blk s H scope (compEnvC scope cl A X.env) fp) G F C) (hf1 : Fine iter1) :
    PS X (.Assign [.Name y py] (.ListComp elt [⟨tgE, iter, [], 0⟩, ⟨tgE1, iter1, ifs1, 0⟩] scope pos) spos) (tS F C X.K (.set i false (.comp2 e tg k its tg1 k1 its1 cs own))) := by
  refine PS.imp (ps_setLc2 (g := gT X.K tg) (g1 := gT X.K tg1) (tt := tC F C X.K []) (tt1 := tC F C X.K cs) (wi1 := iE F C X.K k1 its1) (te := tE F C X.K e) (own := own) (vs1 := tgIx tg1) W.calm W.nd hy hyl hsw (hI.pi W) ok htg1 (fun s H A cl fp => (hg s H A cl fp).pg (wb s H A cl fp)) (fun s H A cl fp => SndC.nil.pts) (fun s H A cl fp => (hI1 s H A cl fp).pi (wb s H A cl fp))
    (fun s H A cl fp => (hg1 s H A cl fp).pg (wb s H A cl fp)) (fun s H A cl fp => (hc s H A cl fp).pts) (fun s H A cl fp => (he s H A cl fp).pe) (fun x => hI.fine.fold _ x) (fun env x => hf1.fold env x)) fun D σ H h => ?_
  obtain ⟨s, Z, B, f, s', R, e, k⟩ := h
  exact comp2_core htg htg1 (set_core R e k)
theorem sd_unp (W : Wd X G F C) {is : List Nat} {e tg : Expr} {ir : Ex} {pos : Pos} (he : Snd F C X e ir) (h : SndT X (.t is) tg) (hs : swapsWithSole [tg] e pos.line X.env = pure false) (hw : swappedStores [tg] e X.env = pure none) : PS X (.Assign [tg] e pos) (tS F C X.K (.unp is ir)) := by
  have ha : (assignEach [tg] X.env).map (·.2) = [assign tg X.env] := by cases h; rfl
  refine PS.imp (ps_asg he.pe (h.pg W) hs hw ha) fun D σ H h => ?_
  obtain ⟨s, Z, B, f, s', R, e, k⟩ := h
  simp only [run] at e
  split at e
  · rename_i r s1 ea
    split at e
    · rename_i hi
      simp only [Option.map_eq_some_iff] at e
      obtain ⟨t, et, e⟩ := e
      cases e
      refine ⟨s, Z, B, r, s1, R, ea, fun v H1 Z1 g o => ⟨s1, Z1, B, r.d, _, g.rel, o.im hi, et, fun σ' Z' g' _ _ => k σ' H1 Z' (g.trans R g')⟩⟩
    · cases e
  · cases e
theorem sd_par (W : Wd X G F C) {i j : Nat} {x y : Str} {a b : Expr} {ia ib : Ex} {px py pt pos : Pos} {kt k2 pt2} (hi : X.N[i]? = some x) (hj : X.N[j]? = some y) (hij : i ≠ j) (hx : X.env.scope.names.lookup x = some .local) (hy : X.env.scope.names.lookup y = some .local)
    (ha : Snd F C X a ia) (hb : Snd F C X b ib) (hw : swappedStores [.Tuple [.Name x px, .Name y py] kt pt] (.Tuple [a, b] k2 pt2) X.env = pure (some [x, y])) :
    PS X (.Assign [.Tuple [.Name x px, .Name y py] kt pt] (.Tuple [a, b] k2 pt2) pos) (tS F C X.K (.par i j false false ia ib)) := by
  refine PS.imp (ps_par W.calm W.nd hi hj hij hx hy (pa_cons ha.pe (pa_cons hb.pe pa_nil (hb.fn.star _ _)) (ha.fn.star _ _)) hw rfl) fun D σ H h => ?_
  obtain ⟨s, Z, B, f, s', R, e, k⟩ := h
  simp only [run] at e
  split at e
  · rename_i ra s1 ea
    split at e
    · rename_i rb s2 eb
      split at e
      · rename_i hc
        simp only [Bool.and_eq_true, Bool.not_eq_true'] at hc
        have hia := hc.1.1
        split at e
        · rename_i t et
          simp only [Option.map_eq_some_iff] at e
          obtain ⟨t2, et2, e⟩ := e
          cases e
          refine ⟨s, Z, B, ra, s1, R, ea, fun v H1 Z1 g o => ?_⟩
          refine ⟨s1, Z1, B, rb, s2, g.rel, eb, fun w H2 Z2 g2 o2 => ?_⟩
          unfold putR at et et2
          rw [if_pos hia] at et
          by_cases hib : isIm rb = true
          · rw [if_pos hib] at et2
            obtain ⟨Z3, g3, hl⟩ := Gr.bind1 g2.rel et ((o.stay_im hia g.rel g2).im hia)
            obtain ⟨Z4, g4, _⟩ := Gr.bind1 g3.rel et2 (Rp.mono (hid_mono hl) _ _ (o2.im hib))
            exact ⟨v, w, rfl, k _ H2 Z4 ((g.trans R g2).trans R (g3.trans g2.rel g4))⟩
          · rw [if_neg hib] at et2
            cases et2
        · cases e
      · cases e
    · cases e
  · cases e
/-- name[k] = e, a list of its own -/
theorem sd_put (W : Wd X G F C) {i : Nat} {x : Str} {k e : Expr} {ik ie : Ex} {px pt pos : Pos} (hN : X.N[i]? = some x) (hv : Vis X.env.scope x) (hdb : (x == ("__debug__" : Str)) = false) (hcd : (x == ("__classdict__" : Str)) = false) (hk : Snd F C X k ik) (he : Snd F C X e ie)
    (hs : swapsWithSole [.Subscript (.Name x px) k pt] e pos.line X.env = pure false) (ha : ∀ v, assign (.Subscript (.Name x px) k pt) X.env v = (do
      let ov ← holding [v] (PySem.eval (.Name x px) X.env)
      let iv ← holding [v, ov] (PySem.eval k X.env)
      standAt pt
      holding [v, ov, iv] (setItem ov iv v)
      release [v, ov, iv] [])) (hw : swappedStores [.Subscript (.Name x px) k pt] e X.env = pure none) : PS X (.Assign [.Subscript (.Name x px) k pt] e pos) (tS F C X.K (.put i ik ie)) := by
  refine PS.imp (ps_asg he.pe (pg_sub (pe_var hN hv hdb hcd) hk.pe set_list ha) hs hw rfl) fun D σ H h => ?_
  obtain ⟨s, Z, B, f, s', R, e, kk⟩ := h
  simp only [run] at e
  split at e
  · rename_i r s1 ea
    split at e
    · rename_i hi
      split at e
      · rename_i p hp
        split at e
        · rename_i rk s2 ek
          simp only [Option.map_eq_some_iff] at e
          obtain ⟨p', ep, e⟩ := e
          cases e
          refine ⟨s, Z, B, r, s1, R, ea, fun v H1 Z1 g o => ?_⟩
          obtain ⟨a, hz, hσ, t1⟩ := g.rel.at (.inl hp)
          have hl : lockR ⟨.bo i, p⟩ s1 = s1.set i (.lk p) := by unfold lockR; simp only [hp]
          have R1 := g.rel.lock ⟨.bo i, p⟩
          rw [hl] at R1
          refine ⟨_, hσ, s1.set i (.lk p), Z1, B, rk, s2, R1, ek, fun kv H2 Z2 g2 o2 => ?_⟩
          have his : i < s1.length := (List.getElem?_eq_some_iff.mp hp).1
          have gl := g2.lck i p (List.getElem?_set_self his)
          have g2' : Gr X.K B σ H1 (lockR ⟨.bo i, p⟩ s1) Z1 H2 s2 Z2 := by rw [hl]; exact g2
          have g3 := Gr.unlock ⟨.bo i, p⟩ g2'
          have hu : unlockR ⟨.bo i, p⟩ s1 s2 = s2.set i (.ow p) := by unfold unlockR; simp only [hp]
          rw [hu] at g3
          have his2 : i < s2.length := (List.getElem?_eq_some_iff.mp gl.1).1
          have ho : (s2.set i (Sl.ow p))[i]? = some (.ow p) := List.getElem?_set_self his2
          obtain ⟨a', hz2, hσ2, t2⟩ := g3.rel.at (.inl ho)
          have : a' = a := by
            rw [hσ] at hσ2
            cases hσ2
            rfl
          subst this
          have od := (o.stay_im hi g.rel g3).im hi
          unfold setD at ep
          split at ep
          · rename_i _ _ ds j hd2
            simp only [Option.map_eq_some_iff] at ep
            obtain ⟨n, en, ep⟩ := ep
            cases ep
            obtain ⟨vs, hH, hr⟩ : ∃ vs, H2 a' = some (.lst vs) ∧ RpL X.K (Hid H2 (hd Z2 B)) ds vs := t2
            have hj : kv = .int j := rp_int (by rw [← hd2]; exact o2.rp)
            refine ⟨a', vs, j, n, rfl, hj, hH, by rw [← hr.len]; exact en, ?_⟩
            have kp : ∀ b o, b ≠ a' → H2 b = some o → upd H2 a' (.lst (vs.set n v)) b = some o := fun b o hb q => by rw [upd_ne hb]; exact q
            have hsm : Same (Hid H2 (hd Z2 B)) (Hid (upd H2 a' (.lst (vs.set n v))) (hd Z2 B)) := fun b o q => by
              obtain ⟨nn, q⟩ := hid_some.mp q
              exact hid_some.mpr ⟨nn, kp b o (fun z => nn (.inl ⟨i, by rw [z]; exact hz2⟩)) q⟩
            have g4 := Gr.put (p' := .list (ds.set n r.d)) g3.rel ho hz2 kp ⟨_, upd_same, RpL.mono hsm _ _ (hr.set n od)⟩
            rw [List.set_set] at g4
            exact kk σ _ Z2 (g.trans R (g3.trans g.rel g4))
          · cases ep
        · cases e
      · cases e
    · cases e
  · cases e
end
end Ev

/-! Ev11: the checker of statements, and that it is right. -/
namespace Ev
open PySem PySem.Spec PyProof.Rows L2
def noComp : Expr → Bool
  | .ListComp _ _ _ _ | .SetComp _ _ _ _ | .DictComp _ _ _ _ _ => false
  | _ => true
/-- whether 'target = value' is stored in another order, where it is told by the form -/
def swK (sc : Scope) (tg v : Expr) : Option Bool := match v with
  | .ListComp _ _ s p => match tg with
    | .Name t tp => if sc.kind = .function then some (decide (sc.names.lookup t = some .local) && (tp.line == p.line && !(s.names.any fun q => q.1 == t && (q.2 == .local || q.2 == .cell)))) else none
    | _ => none
  | _ => if noComp v then some false else none
def noTup : Expr → Bool
  | .Tuple _ _ _ => false
  | _ => true
theorem noComp_sw {v : Expr} (h : noComp v = true) (o : Option Expr) (l : Nat) (env : PySem.Env) : swapsWith v o l env = pure false := by
  cases v <;> first | rfl | cases h
theorem swK_ok {sc : Scope} {tg v : Expr} {b : Bool} (h : swK sc tg v = some b) {env : PySem.Env} (he : env.scope = sc) (l : Nat) : swapsWith v (some tg) l env = pure b := by
  unfold swK at h
  split at h
  · rename_i elt gs s p
    split at h
    · rename_i t tp
      split at h
      · rename_i hk
        have hb : env.blockKind = .function := by unfold Env.blockKind; rw [he, hk]; rfl
        have e := Option.some.inj h
        unfold swapsWith
        simp only [hb, Expr.pos, Env.kindOf, he]
        rw [← e]
        show pure _ = pure _
        congr 1
        cases hl : sc.names.lookup t with
        | none => simp
        | some k => cases k <;> simp
      · cases h
    · cases h
  · split at h
    · rename_i hn
      cases h
      exact noComp_sw hn _ _ _
    · cases h
/-- two plain names of one line -/
def parB (sc : Scope) (x y : Str) (px py : Pos) (a b : Expr) : Bool :=
  decide (sc.kind = .function) && decide (sc.names.lookup x = some .local) && decide (sc.names.lookup y = some .local) && (py.line == px.line) && !(x == y) && fineB a && fineB b && !(foldedForSure 8 a && foldedForSure 8 b) && !(constantsAlone 8 a && constantsAlone 8 b)
theorem parB_ok {sc : Scope} {x y : Str} {px py pt pt2 : Pos} {k k2 : Nat} {a b : Expr} (h : parB sc x y px py a b = true) {env : PySem.Env} (he : env.scope = sc) :
    x ≠ y ∧ sc.names.lookup x = some .local ∧ sc.names.lookup y = some .local ∧ swappedStores [.Tuple [.Name x px, .Name y py] k pt] (.Tuple [a, b] k2 pt2) env = pure (some [x, y]) := by
  unfold parB at h
  simp only [Bool.and_eq_true, decide_eq_true_eq, Bool.not_eq_true'] at h
  obtain ⟨⟨⟨⟨⟨⟨⟨⟨h1, h2⟩, h3⟩, h4⟩, h5⟩, h6⟩, h7⟩, h8⟩, h9⟩ := h
  have hxy : x ≠ y := fun z => by subst z; simp at h5
  refine ⟨hxy, h2, h3, ?_⟩
  have hb : env.blockKind = .function := by unfold Env.blockKind; rw [he, h1]; rfl
  unfold swappedStores
  simp only [hb, List.any_cons, List.any_nil, List.length_cons, List.length_nil, List.all_cons, List.all_nil, Bool.and_true, h8, h9, List.head?_cons, Option.map_some, Option.getD_some, Expr.pos, Env.kindOf, he, List.filterMap_cons, List.filterMap_nil, h2, h3, h4, beq_self_eq_true, Bool.true_and, if_true, Bool.or_false, Bool.false_eq_true, if_false]
  have he1 : ([x, y] : List Str).eraseDups = [x, y] := by
    simp [List.eraseDups_cons, hxy, Ne.symm hxy]
  simp [he1]
  rintro (z | z)
  · exfalso
    revert z
    cases a <;> first | (cases h6; done) | (intro z; cases z)
  · exfalso
    revert z
    cases b <;> first | (cases h7; done) | (intro z; cases z)
section
variable (G : Gm)
mutual
def chkS (sc : Scope) (cell : Str → Bool) : Sx → Stmt → Bool
  | .set i o ir, st => match st with
    | .Assign [tg] v _ => !o && stoB G.N sc cell i tg && chk G sc cell ir v && (match swK sc tg v with
      | some false => true
      | some true => (match ir, v with
        | .comp _ _ _ _ _ _, .ListComp _ [_] _ _ => decide (sc.kind = .function)
        | .comp2 _ _ _ _ _ _ _ _ _, .ListComp _ [_, _] _ _ => decide (sc.kind = .function)
        | _, _ => false)
      | none => false)
    | _ => false
  | .unp is ir, st => match st with
    | .Assign [tg] v _ => tgB G.N sc cell (.t is) tg && chk G sc cell ir v && noTup v && noComp v
    | _ => false
  | .par i j oi oj ia ib, st => match st with
    | .Assign [.Tuple [.Name x px, .Name y py] _ _] (.Tuple [a, b] _ _) _ => !oi && !oj && decide (G.N[i]? = some x) && decide (G.N[j]? = some y) && parB sc x y px py a b && chk G sc cell ia a && chk G sc cell ib b
    | _ => false
  | .exp ir, st => match st with
    | .Expr e _ => noComp e && chk G sc cell ir e
    | _ => false
  | .put i ik ie, st => match st with
    | .Assign [.Subscript (.Name x _) k _] e _ => decide (G.N[i]? = some x) && visB sc x && !(x == ("__debug__" : Str)) && !(x == ("__classdict__" : Str)) && noComp e && fineB k && chk G sc cell ik k && chk G sc cell ie e
    | _ => false
  | .ret ir, st => match st with
    | .Return (some e) _ => chk G sc cell ir e
    | _ => false
  | .retf ir, st => match st with
    | .Return (some e) _ => chk G sc cell ir e
    | _ => false
  | .new i f es, st => match st with
    | .Assign [tg] (.Call (.Name x _) xs [] _) _ => stoB G.N sc cell i tg && decide (G.fn[f]? = some (x, es.length)) && gloB sc x && chkL G sc cell es xs
    | _ => false
  | .ite ic ia ib, st => match st with
    | .If c a b _ => chk G sc cell ic c && chkSL sc cell ia a && chkSL sc cell ib b
    | _ => false
  | .whl ic ib, st => match st with
    | .While c b [] _ => chk G sc cell ic c && chkSL sc cell ib b
    | _ => false
  | .for tg k its ib, st => match st with
    | .For tgE it b [] _ => tgB G.N sc cell tg tgE && (match ikE k sc it with
      | some xs => chkL G sc cell its xs
      | none => false) && chkSL sc cell ib b
    | _ => false
  | .brk, st => match st with
    | .Break _ => true
    | _ => false
  | .cnt, st => match st with
    | .Continue _ => true
    | _ => false
  | .pass, st => match st with
    | .Pass _ => true
    | _ => false
  | .aug _ _ _, _ => false
  | .app _ _, _ => false
  | .ext _ _, _ => false
def chkSL (sc : Scope) (cell : Str → Bool) : List Sx → List Stmt → Bool
  | [], [] => true
  | i :: is, s :: ss => chkS sc cell i s && chkSL sc cell is ss
  | _, _ => false
end
end
section
variable {F : Nat → Fn} {C : Nat → PyData} {X : Cx} {G : Gm} {sc : Scope} {cell : Str → Bool}
mutual
theorem sndS (W : Wd X G F C) (A : At X sc cell) (hp : PassesOwn (model X.prog X.w) X.A X.env X.xe) : ∀ (ir : Sx) (st : Stmt), chkS G sc cell ir st = true → PS X st (tS F C X.K ir)
  | .set i o ir, st, h => by
    simp only [chkS] at h
    split at h
    · rename_i tg v pos
      simp only [Bool.and_eq_true, Bool.not_eq_true'] at h
      obtain ⟨⟨⟨h1, h2⟩, h3⟩, h4⟩ := h
      subst h1
      split at h4
      · rename_i hs
        exact sd_set W (sndE ir v X sc cell W A h3) (A.sto W h2) (swK_ok hs A.sc _)
      · rename_i hs
        split at h4
        · rename_i e0 tg0 k0 its0 cs0 own0 elt c0 scope0 pos0
          simp only [decide_eq_true_eq] at h4
          have hsw := swK_ok hs A.sc pos.line
          simp only [swK] at hs
          split at hs
          · rename_i t tp
            rw [if_pos h4] at hs
            simp only [Option.some.injEq, Bool.and_eq_true, decide_eq_true_eq] at hs
            have hl := hs.1
            obtain ⟨tgE, it, ifs, ia⟩ := c0
            simp only [chk, Bool.and_eq_true, decide_eq_true_eq, List.all_eq_true] at h3
            obtain ⟨⟨⟨⟨⟨⟨⟨g1, g2⟩, g3⟩, g4⟩, g5⟩, g6⟩, g7⟩, g8⟩ := h3
            subst g1
            have hy : X.N[i]? = some t := by
              rw [W.nN]
              simp only [stoB, Bool.and_eq_true, decide_eq_true_eq] at h2
              exact h2.1
            split at g2
            · rename_i xs ek
              exact sd_setc W hy (by rw [A.sc]; exact hl) hsw (sndI_of A ek (sndL its0 _ X sc cell W A g2)) (by rw [W.nN, A.sc]; exact blkOk_by g3) g4 (fun s H a cl fp => (A.blk s H scope0 a cl fp).tg (W.blk s H scope0 a cl fp) g5)
                (fun s H a cl fp => sndC_of (sndL cs0 _ _ _ _ (W.blk s H scope0 a cl fp) (A.blk s H scope0 a cl fp) g7) g6) (fun s H a cl fp => sndE e0 _ _ _ _ (W.blk s H scope0 a cl fp) (A.blk s H scope0 a cl fp) g8) (fun s H a cl fp => W.blk s H scope0 a cl fp)
            · cases g2
          · cases hs
        · rename_i e0 tg0 k0 its0 tg10 k10 its10 cs0 own0 elt c0 c1 scope0 pos0
          simp only [decide_eq_true_eq] at h4
          have hsw := swK_ok hs A.sc pos.line
          simp only [swK] at hs
          split at hs
          · rename_i t tp
            rw [if_pos h4] at hs
            simp only [Option.some.injEq, Bool.and_eq_true, decide_eq_true_eq] at hs
            have hl := hs.1
            obtain ⟨tgE, it, ifs, ia⟩ := c0
            obtain ⟨tgE1, it1, ifs1, ia1⟩ := c1
            simp only [chk, Bool.and_eq_true, decide_eq_true_eq, List.all_eq_true, List.isEmpty_iff] at h3
            obtain ⟨g9, g1, g1', g0, g2, g3, g4, g4', g5, g5', g2', g6, g7, g8⟩ := h3
            subst g1 g1' g0
            have hy : X.N[i]? = some t := by
              rw [W.nN]
              simp only [stoB, Bool.and_eq_true, decide_eq_true_eq] at h2
              exact h2.1
            split at g2
            · rename_i xs ek
              split at g2'
              · rename_i xs1 ek1
                have hI1 : ∀ (s : Shared) (H : Hp) (a : Addr) (cl : List (Str × Addr)) (fp : List Addr), SndI F C (X.blk s H scope0 (compEnvC scope0 cl a X.env) fp) it1 k10 its10 := fun s H a cl fp => sndI_of (A.blk s H scope0 a cl fp) ek1 (sndL its10 _ _ _ _ (W.blk s H scope0 a cl fp) (A.blk s H scope0 a cl fp) g2')
                exact sd_setc2 W hy (by rw [A.sc]; exact hl) hsw (sndI_of A ek (sndL its0 _ X sc cell W A g2)) (by rw [W.nN, A.sc]; exact blkOk_by g3) g4 g4' (fun s H a cl fp => (A.blk s H scope0 a cl fp).tg (W.blk s H scope0 a cl fp) g5) hI1 (fun s H a cl fp => (A.blk s H scope0 a cl fp).tg (W.blk s H scope0 a cl fp) g5')
                  (fun s H a cl fp => sndC_of (sndL cs0 _ _ _ _ (W.blk s H scope0 a cl fp) (A.blk s H scope0 a cl fp) g7) g6) (fun s H a cl fp => sndE e0 _ _ _ _ (W.blk s H scope0 a cl fp) (A.blk s H scope0 a cl fp) g8) (fun s H a cl fp => W.blk s H scope0 a cl fp) (fineB_ok g9)
              · cases g2'
            · cases g2
          · cases hs
        · cases h4
      · cases h4
    · cases h
  | .unp is ir, st, h => by
    simp only [chkS] at h
    split at h
    · rename_i tg v pos
      simp only [Bool.and_eq_true] at h
      refine sd_unp W (sndE ir v X sc cell W A h.1.1.2) (A.tg W h.1.1.1) (noComp_sw h.2 _ _ _) ?_
      have hv := h.1.2
      have ht := h.1.1.1
      cases tg <;> first | (cases ht; done) | (cases v <;> first | rfl | cases hv)
    · cases h
  | .par i j oi oj ia ib, st, h => by
    simp only [chkS] at h
    split at h
    · rename_i x px y py k1 p1 a b k2 p2 pos
      simp only [Bool.and_eq_true, decide_eq_true_eq, Bool.not_eq_true'] at h
      obtain ⟨⟨⟨⟨⟨⟨h1, h2⟩, h3⟩, h4⟩, h5⟩, h6⟩, h7⟩ := h
      subst h1 h2
      obtain ⟨hxy, hx, hy, hw⟩ := parB_ok (k := k1) (pt := p1) (k2 := k2) (pt2 := p2) h5 A.sc
      refine sd_par W (by rw [W.nN]; exact h3) (by rw [W.nN]; exact h4) (fun z => ?_) (by rw [A.sc]; exact hx) (by rw [A.sc]; exact hy) (sndE ia a X sc cell W A h6) (sndE ib b X sc cell W A h7) hw
      subst z
      rw [h3] at h4
      exact hxy (Option.some.inj h4)
    · cases h
  | .exp ir, st, h => by
    simp only [chkS] at h
    split at h
    · rw [Bool.and_eq_true] at h
      exact sd_exp (sndE ir _ X sc cell W A h.2) (noComp_sw h.1 _ _ _)
    · cases h
  | .put i ik ie, st, h => by
    simp only [chkS] at h
    split at h
    · rename_i x px k pt e pos
      simp only [Bool.and_eq_true, decide_eq_true_eq, Bool.not_eq_true'] at h
      obtain ⟨⟨⟨⟨⟨⟨⟨h1, h2⟩, h3⟩, h4⟩, h5⟩, h6⟩, h7⟩, h8⟩ := h
      refine sd_put W (by rw [W.nN]; exact h1) (A.vis h2) h3 h4 (sndE ik k X sc cell W A h7) (sndE ie e X sc cell W A h8) (by show swapsWith e (some (.Subscript (.Name x px) k pt)) pos.line X.env = pure false; exact noComp_sw h5 _ _ _) ?_ ?_
      · intro v
        cases k <;> first | rfl | cases h6
      · cases e <;> rfl
    · cases h
  | .ret ir, st, h => by
    simp only [chkS] at h
    split at h
    · exact sd_ret (sndE ir _ X sc cell W A h)
    · cases h
  | .retf ir, st, h => by
    simp only [chkS] at h
    split at h
    · exact sd_retf (sndE ir _ X sc cell W A h)
    · cases h
  | .new i f es, st, h => by
    simp only [chkS] at h
    split at h
    · simp only [Bool.and_eq_true, decide_eq_true_eq] at h
      obtain ⟨⟨⟨h1, h2⟩, h3⟩, h4⟩ := h
      exact sd_new W (A.sto W h1) (sndL es _ X sc cell W A h4) (W.fns f _ _ h2) (A.gl h3).1 (A.gl h3).2 rfl
    · cases h
  | .ite ic ia ib, st, h => by
    simp only [chkS] at h
    split at h
    · simp only [Bool.and_eq_true] at h
      exact sd_ite (sndE ic _ X sc cell W A h.1.1) (sndSL W A hp ia _ h.1.2) (sndSL W A hp ib _ h.2)
    · cases h
  | .whl ic ib, st, h => by
    simp only [chkS] at h
    split at h
    · simp only [Bool.and_eq_true] at h
      exact sd_whl W hp (sndE ic _ X sc cell W A h.1) (sndSL W A hp ib _ h.2)
    · cases h
  | .for tg k its ib, st, h => by
    simp only [chkS] at h
    split at h
    · simp only [Bool.and_eq_true] at h
      obtain ⟨⟨h1, h2⟩, h3⟩ := h
      split at h2
      · rename_i xs ek
        exact sd_for W hp (sndI_of A ek (sndL its _ X sc cell W A h2)) (A.tg W h1) (sndSL W A hp ib _ h3)
      · cases h2
    · cases h
  | .brk, st, h => by
    simp only [chkS] at h
    split at h
    · exact sd_brk
    · cases h
  | .cnt, st, h => by
    simp only [chkS] at h
    split at h
    · exact sd_cnt
    · cases h
  | .pass, st, h => by
    simp only [chkS] at h
    split at h
    · exact sd_pass
    · cases h
  | .aug _ _ _, st, h => by simp only [chkS] at h; cases h
  | .app _ _, st, h => by simp only [chkS] at h; cases h
  | .ext _ _, st, h => by simp only [chkS] at h; cases h
theorem sndSL (W : Wd X G F C) (A : At X sc cell) (hp : PassesOwn (model X.prog X.w) X.A X.env X.xe) : ∀ (irs : List Sx) (sts : List Stmt), chkSL G sc cell irs sts = true → PSs X sts (tSL F C X.K irs)
  | [], [], h => sds_nil
  | i :: is, s :: ss, h => by
    simp only [chkSL, Bool.and_eq_true] at h
    exact sds_cons (sndS W A hp i s h.1) (sndSL W A hp is ss h.2)
  | [], _ :: _, h => by simp only [chkSL] at h; cases h
  | _ :: _, [], h => by simp only [chkSL] at h; cases h
end
end
end Ev

/-! Ev12: defs, by levels. -/
namespace Ev
open PySem PySem.Spec PyProof.Rows L2
/-- a def's slots at its entry -/
def entry (n : Nat) (io : Bool) (ds : List PyData) : Stt :=
  (match io, ds with
    | true, p :: ps => Sl.ow p :: ps.map Sl.im
    | _, ds => ds.map Sl.im) ++ List.replicate (n - ds.length) Sl.no
def leave (io fr : Bool) : Ro → Option (PyData × PyData)
  | some (.rt d, s') => if fr then none else if io then (match s'.head? with
    | some (.ow p) => some (d, p)
    | _ => none) else some (d, .none)
  | some (.rf d, _) => if fr && !io then some (d, .none) else none
  | _ => none
noncomputable def semOf (F : Nat → Fn) (C : Nat → PyData) (n : Nat) (io fr : Bool) (ir : List Sx) (ds : List PyData) : Option (PyData × PyData) := leave io fr (runL F C ir (entry n io ds))
theorem entry_len {n : Nat} {io : Bool} {ds : List PyData} (h : ds.length ≤ n) : (entry n io ds).length = n := by
  unfold entry
  rw [List.length_append, List.length_replicate]
  split <;> simp only [List.length_cons, List.length_map] at * <;> omega
section
variable {K : PySem.W.Frag} {H : Hp}
theorem start_len {N : List Str} {vs : List V} (h : vs.length ≤ N.length) : (L2.start N vs).length = N.length := by
  unfold L2.start
  rw [List.length_append, List.length_map, List.length_replicate]
  omega
theorem start_get {N : List Str} {vs : List V} {i : Nat} {v : V} (h : vs[i]? = some v) : (L2.start N vs)[i]? = some (some v) := by
  unfold L2.start
  have hi := (List.getElem?_eq_some_iff.mp h).1
  rw [List.getElem?_append_left (by rw [List.length_map]; exact hi), List.getElem?_map, h]
  rfl
theorem im_of {ds : List PyData} {m i : Nat} {d : PyData} (h : (ds.map Sl.im ++ List.replicate m Sl.no)[i]? = some (.im d)) : ds[i]? = some d := by
  by_cases hi : i < ds.length
  · rw [List.getElem?_append_left (by rw [List.length_map]; exact hi), List.getElem?_map] at h
    cases q : ds[i]? with
    | none => rw [q] at h; cases h
    | some x => rw [q] at h; cases h; rfl
  · rw [List.getElem?_append_right (by rw [List.length_map]; omega), List.getElem?_replicate] at h
    split at h <;> cases h
theorem no_ow {ds : List PyData} {m i : Nat} {d : PyData} : (ds.map Sl.im ++ List.replicate m Sl.no)[i]? ≠ some (.ow d) ∧ (ds.map Sl.im ++ List.replicate m Sl.no)[i]? ≠ some (.lk d) := by
  by_cases hi : i < ds.length
  · rw [List.getElem?_append_left (by rw [List.length_map]; exact hi), List.getElem?_map]
    cases ds[i]? <;> constructor <;> intro z <;> cases z
  · rw [List.getElem?_append_right (by rw [List.length_map]; omega), List.getElem?_replicate]
    constructor <;> intro z <;> split at z <;> cases z
/-- all of the arguments are data for good -/
theorem rel_start {N : List Str} {vs : List V} {ds : List PyData} {B : Addr → Prop} (hl : vs.length ≤ N.length) (hB : ∀ b, B b → ∃ o, H b = some o ∧ LD o) (h : RpL K (Hid H B) ds vs) : Rel K H (L2.start N vs) (entry N.length false ds) (fun _ => none) B := by
  have e : entry N.length false ds = ds.map .im ++ List.replicate (N.length - ds.length) .no := by unfold entry; cases ds <;> rfl
  have hd0 : ∀ b, hd (fun _ => none) B b ↔ B b := fun b => ⟨fun z => z.elim (fun ⟨_, q⟩ => nomatch q) id, .inr⟩
  refine ⟨by rw [start_len hl, entry_len (by rw [h.len]; exact hl)], (fun _ _ _ z => nomatch z), (fun _ _ z => nomatch z), (fun _ _ z => nomatch z), fun i d q => ?_, fun i d q => ?_, hB⟩
  · rw [e] at q
    obtain ⟨v, q1, q2⟩ := h.get (im_of q)
    exact ⟨v, start_get q1, Rp.mono (hid_mono fun b z => (hd0 b).mp z) _ _ q2⟩
  · rw [e] at q
    exact (q.elim no_ow.1 no_ow.2).elim
/-- the first argument is a list that will change -/
theorem rel_startP {N : List Str} {a : Addr} {us : List V} {p : PyData} {ps : List PyData} {B : Addr → Prop} (hl : us.length + 1 ≤ N.length) (hB : ∀ b, B b → ∃ o, H b = some o ∧ LD o) (ha : B a) (t : Top K H (Hid H B) p a) (h : RpL K (Hid H B) ps us) :
    Rel K H (L2.start N (.ref a :: us)) (entry N.length true (p :: ps)) (fun i => if i = 0 then some a else none) (fun b => B b ∧ b ≠ a) := by
  have e : entry N.length true (p :: ps) = .ow p :: (ps.map .im ++ List.replicate (N.length - (ps.length + 1)) .no) := rfl
  have e2 : L2.start N (.ref a :: us) = some (.ref a) :: (us.map some ++ List.replicate (N.length - (us.length + 1)) none) := rfl
  have hle : ∀ b, hd (fun i => if i = 0 then some a else none) (fun b => B b ∧ b ≠ a) b → B b := by
    rintro b (⟨i, q⟩ | q)
    · by_cases z : i = 0
      · simp only [if_pos z] at q; cases q; exact ha
      · simp only [if_neg z] at q; cases q
    · exact q.1
  have hs := hid_mono (H := H) hle
  refine ⟨by rw [start_len (vs := .ref a :: us) hl, entry_len (by rw [List.length_cons, h.len]; exact hl)], fun i j b q1 q2 => ?_, fun i b q z => ?_, fun i b q => ?_, fun i d q => ?_, fun i d q => ?_, fun b z => hB b z.1⟩
  · by_cases z1 : i = 0 <;> by_cases z2 : j = 0
    · rw [z1, z2]
    · simp only [if_neg z2] at q2; cases q2
    · simp only [if_neg z1] at q1; cases q1
    · simp only [if_neg z1] at q1; cases q1
  · by_cases z1 : i = 0
    · simp only [if_pos z1] at q; cases q; exact z.2 rfl
    · simp only [if_neg z1] at q; cases q
  · by_cases z1 : i = 0
    · simp only [if_pos z1] at q
      cases q
      subst z1
      exact ⟨p, .inl rfl, rfl, t.mono (fun _ z => z) hs⟩
    · simp only [if_neg z1] at q; cases q
  · cases i with
    | zero => rw [e] at q; cases q
    | succ i =>
      rw [e, List.getElem?_cons_succ] at q
      obtain ⟨v, q1, q2⟩ := h.get (im_of q)
      exact ⟨v, start_get (vs := .ref a :: us) (by rw [List.getElem?_cons_succ]; exact q1), Rp.mono hs _ _ q2⟩
  · cases i with
    | zero => exact ⟨a, rfl⟩
    | succ i =>
      rw [e, List.getElem?_cons_succ] at q
      exact (q.elim no_ow.1 no_ow.2).elim
end

/-- a def -/
structure Df where
  name : Str
  ps : List Str
  N : List Str
  st : Stmt
  io : Bool
  fr : Bool
  ir : List Sx
/-- what the defs compute within so many levels of calls -/
noncomputable def lev (T : List Df) (C : Nat → PyData) : Nat → Nat → Fn
  | 0, f => ⟨(T[f]?.map (·.io)).getD false, (T[f]?.map (·.fr)).getD false, fun _ => none⟩
  | k + 1, f => ⟨(T[f]?.map (·.io)).getD false, (T[f]?.map (·.fr)).getD false, fun ds => match T[f]? with
    | some D => semOf (lev T C k) C D.N.length D.io D.fr D.ir ds
    | none => none⟩
section
variable {P : Program} {w : World} {K : PySem.W.Frag} {mg : Str → Option Value} {base : Heap}
theorem def_ok {F : Nat → Fn} {C : Nat → PyData} {G : Gm} {x qual : Str} {st : Stmt} {f : Addr} {fd : FuncData} {N ps : List Str} {k : Nat} {io fr : Bool} {ir : List Sx} (U : Fun K x qual st f fd) (S : FnScope N ps (defScope st)) (hN : G.N = N)
    (hc : chkSL G (defScope st) (fun _ => true) ir (defBody st) = true) (hb : ∀ x ∈ bltns, mg x = none) (hg : ∀ g x, G.gl[g]? = some x → ∃ u v, mg x = some u ∧ RelV v u ∧ ∀ H, Rp K H (C g) v)
    (hf : ∀ f x n, G.fn[f]? = some (x, n) → ∃ (fa : Addr) (fd : FuncData) (ps : List Str), FnOk P w K mg base CX0 k fa fd ps (spF K n (F f)) ∧ mg x = some (.ref fa) ∧ PySem.W.keepIn K (.ref fa) = true ∧ Binds K fd ps []) :
    FnOk P w K mg base CX0 (k + 1) f fd ps (spF K ps.length ⟨io, fr, semOf F C N.length io fr ir⟩) := by
  refine U.ok S (fun vs H Q E h => h.1) (fun cdv A outer s H vs Q E hr h => ?_)
  have hpl : ps.length ≤ N.length := by have := congrArg List.length S.pre; rw [List.length_take] at this; omega
  obtain ⟨hl, B, ds, d, p', hB, hs, h⟩ := h
  have hun := hr.un
  have W : Wd (cxOf CX0 P w K mg base N qual (defScope st) f cdv A outer s H E).nox G F C :=
    ⟨rfl, hN.symm, S.nd, hb, hg, fun f x n e => by
      obtain ⟨fa, fd, ps, h1, h2, h3, h4⟩ := hf f x n e
      exact ⟨⟨k, fa, fd, ps, h1, hr, h2, h3, h4⟩⟩, (by show (A.deeper _).units + 100 < cLine; omega)⟩
  have At0 : At (cxOf CX0 P w K mg base N qual (defScope st) f cdv A outer s H E).nox (defScope st) (fun _ => true) := ⟨rfl, fun _ _ => rfl⟩
  refine ⟨_, sndSL W At0 PassesOwn.never ir _ hc, ?_⟩
  replace hs : leave io fr (runL F C ir (entry N.length io ds)) = some (d, p') := hs
  have hlN : vs.length ≤ N.length := by rw [hl]; exact hpl
  rcases h with ⟨h1, h2, h3, h4⟩ | ⟨h1, h2, h3, h4⟩ | ⟨h1, h2, a, us, p, pd, rfl, ha, rfl, ht, h3, h4⟩
  · have h1 : io = false := h1
    have h2 : fr = false := h2
    subst h1 h2
    have R := rel_start (N := N) hlN hB h3
    cases er : runL F C ir (entry N.length false ds) with
    | none => rw [er] at hs; cases hs
    | some q =>
      obtain ⟨fl, s'⟩ := q
      rw [er] at hs
      cases fl with
      | rt d0 =>
        cases hs
        refine ⟨_, _, B, _, s', R, er, fun v σ' H' Z' g r => ?_⟩
        exact h4 v H' (Rp.mono (hid_mono fun b z => .inr z) _ _ r) fun b o e => g.keep b o e fun i d _ z => nomatch z
      | rf d0 => cases hs
      | nx => cases hs
      | bk => cases hs
      | ct => cases hs
  · have h1 : io = false := h1
    have h2 : fr = true := h2
    subst h1 h2
    have R := rel_start (N := N) hlN hB h3
    cases er : runL F C ir (entry N.length false ds) with
    | none => rw [er] at hs; cases hs
    | some q =>
      obtain ⟨fl, s'⟩ := q
      rw [er] at hs
      cases fl with
      | rf d0 =>
        cases hs
        refine ⟨_, _, B, _, s', R, er, fun v σ' H' Z' g r => ?_⟩
        obtain ⟨a, rfl, _, _, hn, t⟩ := r
        exact h4 a H' hn (t.mono (fun _ z => z) (hid_mono fun b z => z.elim .inl fun z => .inr (.inr z))) fun b o e => g.keep b o e fun i d _ z => nomatch z
      | rt d0 => cases hs
      | nx => cases hs
      | bk => cases hs
      | ct => cases hs
  · have h1 : io = true := h1
    have h2 : fr = false := h2
    subst h1 h2
    have R := rel_startP (N := N) (ps := pd) (by rw [List.length_cons] at hlN; exact hlN) hB ha ht h3
    cases er : runL F C ir (entry N.length true (p :: pd)) with
    | none => rw [er] at hs; cases hs
    | some q =>
      obtain ⟨fl, s'⟩ := q
      rw [er] at hs
      cases fl with
      | rf d0 => cases hs
      | nx => cases hs
      | bk => cases hs
      | ct => cases hs
      | rt d0 =>
        simp only [leave, Bool.false_eq_true, if_false, if_true] at hs
        split at hs
        · rename_i p0 e0
          cases hs
          refine ⟨_, _, _, _, s', R, er, fun v σ' H' Z' g r => ?_⟩
          have z0 := g.pin a rfl
          obtain ⟨a', z1, _, t⟩ := g.rel.at (i := 0) (.inl (by rw [← List.head?_eq_getElem?]; exact e0))
          rw [z0] at z1
          cases z1
          have hle : ∀ b, B b → hd Z' (fun b => B b ∧ b ≠ a) b := fun b z => by
            by_cases e : b = a
            · subst e; exact .inl ⟨0, z0⟩
            · exact .inr ⟨z, e⟩
          refine h4 v H' (Rp.mono (hid_mono hle) _ _ r) (t.mono (fun _ z => z) (hid_mono hle)) (fun b o hb e => g.keep b o e fun i d _ z => ?_) fun o e => g.tr a o e
          by_cases zi : i = 0
          · simp only [if_pos zi] at z
            exact hb (Option.some.inj z).symm
          · simp only [if_neg zi] at z
            cases z
        · cases hs

/-- what is asked of each def of the table -/
structure Row (K : PySem.W.Frag) (mg : Str → Option Value) (T : List Df) (gl : List Str) (D : Df) : Prop where
  u : ∃ (fa : Addr) (fd : FuncData), Fun K D.name D.name D.st fa fd ∧ mg D.name = some (.ref fa) ∧ Binds K fd D.ps []
  s : FnScope D.N D.ps (defScope D.st)
  c : chkSL ⟨D.N, T.map fun D => (D.name, D.ps.length), gl⟩ (defScope D.st) (fun _ => true) D.ir (defBody D.st) = true
theorem tab_ok {T : List Df} {C : Nat → PyData} {gl : List Str} (hT : ∀ D ∈ T, Row K mg T gl D) (hb : ∀ x ∈ bltns, mg x = none) (hg : ∀ g x, gl[g]? = some x → ∃ u v, mg x = some u ∧ RelV v u ∧ ∀ H, Rp K H (C g) v) :
    ∀ (k i : Nat) (D : Df), T[i]? = some D → ∃ (fa : Addr) (fd : FuncData), FnOk P w K mg base CX0 k fa fd D.ps (spF K D.ps.length (lev T C k i)) ∧ mg D.name = some (.ref fa) ∧ PySem.W.keepIn K (.ref fa) = true ∧ Binds K fd D.ps [] ∧ ∃ st, Fun K D.name D.name st fa fd := by
  intro k
  induction k with
  | zero =>
    intro i D hi
    obtain ⟨fa, fd, hu, hm, hbd⟩ := (hT D (List.mem_of_getElem? hi)).u
    refine ⟨fa, fd, ⟨fun vs H Q E h => h.1, fun A outer s H args us vs Q E _ _ _ _ h => ?_⟩, hm, hu.kp, hbd, D.st, hu⟩
    obtain ⟨_, _, _, _, _, _, z, _⟩ := h
    cases z
  | succ k ih =>
    intro i D hi
    obtain ⟨fa, fd, hu, hm, hbd⟩ := (hT D (List.mem_of_getElem? hi)).u
    have R := hT D (List.mem_of_getElem? hi)
    refine ⟨fa, fd, ?_, hm, hu.kp, hbd, D.st, hu⟩
    have q := def_ok (P := P) (w := w) (base := base) (k := k) (F := lev T C k) (C := C) (io := D.io) (fr := D.fr) hu R.s rfl R.c hb hg (fun f x n e => by
      rw [List.getElem?_map] at e
      cases ef : T[f]? with
      | none => rw [ef] at e; cases e
      | some D' =>
        rw [ef] at e
        cases e
        obtain ⟨fa', fd', h1, h2, h3, h4, _⟩ := ih f D' ef
        exact ⟨fa', fd', D'.ps, h1, h2, h3, h4⟩)
    have e : lev T C (k + 1) i = ⟨D.io, D.fr, semOf (lev T C k) C D.N.length D.io D.fr D.ir⟩ := by
      show Fn.mk _ _ _ = _
      rw [hi]
      rfl
    rw [e]
    exact q
end
end Ev

/-! Ev13: reasoning about what the small language computes. -/
namespace Ev
open PySem
section
variable {F : Nat → Fn} {C : Nat → PyData} {s : Stt} {Q : Rs → Stt → Prop}
def okO {α β : Type} (o : Option (α × β)) (Q : α → β → Prop) : Prop := match o with
  | some (r, t) => Q r t
  | none => False
theorem okO_ex {α β : Type} {o : Option (α × β)} {Q : α → β → Prop} : okO o Q ↔ ∃ r t, o = some (r, t) ∧ Q r t := by
  cases o with
  | none => exact ⟨fun h => h.elim, fun ⟨_, _, e, _⟩ => nomatch e⟩
  | some p => exact ⟨fun h => ⟨p.1, p.2, rfl, h⟩, fun ⟨r, t, e, q⟩ => by cases e; exact q⟩
theorem okO.imp {α β : Type} {o : Option (α × β)} {Q Q' : α → β → Prop} (h : okO o Q) (k : ∀ r t, Q r t → Q' r t) : okO o Q' := by
  cases o with
  | none => exact h
  | some p => exact k _ _ h
def okE (F : Nat → Fn) (C : Nat → PyData) (e : Ex) (s : Stt) (Q : Rs → Stt → Prop) : Prop := okO (eval F C e s) Q
def okEL (F : Nat → Fn) (C : Nat → PyData) (es : List Ex) (s : Stt) (Q : List Rs → Stt → Prop) : Prop := okO (evalL F C es s) Q
def okC (F : Nat → Fn) (C : Nat → PyData) (es : List Ex) (s : Stt) (Q : Bool → Stt → Prop) : Prop := okO (evalC F C es s) Q
def okS (F : Nat → Fn) (C : Nat → PyData) (i : Sx) (s : Stt) (Q : Fl → Stt → Prop) : Prop := okO (run F C i s) Q
def okSL (F : Nat → Fn) (C : Nat → PyData) (is : List Sx) (s : Stt) (Q : Fl → Stt → Prop) : Prop := okO (runL F C is s) Q
theorem w_nm {i : Nat} : okE F C (.nm i) s Q ↔ (match s[i]? with
    | some (.im d) => Q ⟨.im, d⟩ s
    | some (.ow d) => Q ⟨.bo i, d⟩ s
    | some (.lk d) => Q ⟨.bo i, d⟩ s
    | _ => False) := by
  unfold okE okO
  simp only [eval]
  cases s[i]? with
  | none => simp
  | some x => cases x <;> simp
theorem w_mv {i : Nat} : okE F C (.mv i) s Q ↔ (match s[i]? with
    | some (.im d) => Q ⟨.im, d⟩ s
    | some (.ow d) => i ≠ 0 ∧ Q ⟨.im, d⟩ (s.set i (.im d))
    | _ => False) := by
  unfold okE okO
  simp only [eval]
  cases s[i]? with
  | none => simp
  | some x =>
    cases x <;> simp
    by_cases h : i = 0 <;> simp [h]
theorem w_cs {d : PyData} : okE F C (.cs d) s Q ↔ Q ⟨.im, d⟩ s := by simp only [okE, okO, eval]
theorem w_gl {g : Nat} : okE F C (.gl g) s Q ↔ Q ⟨.im, C g⟩ s := by simp only [okE, okO, eval]
theorem w_bin {o : Bo} {a b : Ex} : okE F C (.bin o a b) s Q ↔ okE F C a s fun ra s1 => okE F C b (lockR ra s1) fun rb s2 => ∃ r, binD o ra.d rb.d = some r ∧ Q r (unlockR ra s1 s2) := by
  unfold okE okO
  simp only [eval]
  cases ea : eval F C a s with
  | none => simp
  | some p =>
    obtain ⟨ra, s1⟩ := p
    cases eb : eval F C b (lockR ra s1) with
    | none => simp [eb]
    | some q =>
      obtain ⟨rb, s2⟩ := q
      cases ec : binD o ra.d rb.d <;> simp [eb, ec]
theorem w_cmp {o : Co} {a b : Ex} : okE F C (.cmp o a b) s Q ↔ okE F C a s fun ra s1 => okE F C b (lockR ra s1) fun rb s2 => ∃ r, cmpD o ra.d rb.d = some r ∧ Q ⟨.im, .bool r⟩ (unlockR ra s1 s2) := by
  unfold okE okO
  simp only [eval]
  cases ea : eval F C a s with
  | none => simp
  | some p =>
    obtain ⟨ra, s1⟩ := p
    cases eb : eval F C b (lockR ra s1) with
    | none => simp [eb]
    | some q =>
      obtain ⟨rb, s2⟩ := q
      cases ec : cmpD o ra.d rb.d <;> simp [eb, ec]
theorem w_sub {a b : Ex} : okE F C (.sub a b) s Q ↔ okE F C a s fun ra s1 => okE F C b (lockR ra s1) fun rb s2 => ∃ d, subD ra.d rb.d = some d ∧ Q ⟨.im, d⟩ (unlockR ra s1 s2) := by
  unfold okE okO
  simp only [eval]
  cases ea : eval F C a s with
  | none => simp
  | some p =>
    obtain ⟨ra, s1⟩ := p
    cases eb : eval F C b (lockR ra s1) with
    | none => simp [eb]
    | some q =>
      obtain ⟨rb, s2⟩ := q
      cases ec : subD ra.d rb.d <;> simp [eb, ec]
theorem w_b2 {b : B2} {a c : Ex} : okE F C (.b2 b a c) s Q ↔ okE F C a s fun ra s1 => okE F C c (lockR ra s1) fun rb s2 => ∃ r, b2D b ra.d rb.d = some r ∧ Q r (unlockR ra s1 s2) := by
  unfold okE okO
  simp only [eval]
  cases ea : eval F C a s with
  | none => simp
  | some p =>
    obtain ⟨ra, s1⟩ := p
    cases eb : eval F C c (lockR ra s1) with
    | none => simp [eb]
    | some q =>
      obtain ⟨rb, s2⟩ := q
      cases ec : b2D b ra.d rb.d <;> simp [eb, ec]
theorem w_mt {m : Mt} {a c : Ex} : okE F C (.mt m a c) s Q ↔ okE F C a s fun ra s1 => okE F C c (lockR ra s1) fun rb s2 => ∃ r, mtD m ra.d rb.d = some r ∧ Q r (unlockR ra s1 s2) := by
  unfold okE okO
  simp only [eval]
  cases ea : eval F C a s with
  | none => simp
  | some p =>
    obtain ⟨ra, s1⟩ := p
    cases eb : eval F C c (lockR ra s1) with
    | none => simp [eb]
    | some q =>
      obtain ⟨rb, s2⟩ := q
      cases ec : mtD m ra.d rb.d <;> simp [eb, ec]
theorem w_b1 {b : B1} {a : Ex} : okE F C (.b1 b a) s Q ↔ okE F C a s fun ra s1 => ∃ r, b1D b ra.d = some r ∧ Q r s1 := by
  unfold okE okO
  simp only [eval]
  cases ea : eval F C a s with
  | none => simp
  | some p =>
    obtain ⟨ra, s1⟩ := p
    cases ec : b1D b ra.d <;> simp [ec]
theorem w_isi {a : Ex} {t : Ty} : okE F C (.isi a t) s Q ↔ okE F C a s fun ra s1 => Q ⟨.im, .bool (isiD ra.d t)⟩ s1 := by
  unfold okE okO
  simp only [eval]
  cases ea : eval F C a s with
  | none => simp
  | some p =>
    obtain ⟨ra, s1⟩ := p
    simp
theorem w_not {a : Ex} : okE F C (.not a) s Q ↔ okE F C a s fun ra s1 => ∃ x, ra.d = .bool x ∧ Q ⟨.im, .bool (!x)⟩ s1 := by
  unfold okE okO
  simp only [eval]
  cases ea : eval F C a s with
  | none => simp
  | some p =>
    obtain ⟨⟨k, d⟩, s1⟩ := p
    cases d <;> simp
theorem w_and {a b : Ex} : okE F C (.and a b) s Q ↔ okE F C a s fun ra s1 => ∃ x, ra.d = .bool x ∧ (x = true → okE F C b s1 fun rb s2 => ∃ y, rb.d = .bool y ∧ Q ⟨.im, .bool y⟩ s2) ∧ (x = false → Q ⟨.im, .bool false⟩ s1) := by
  unfold okE okO
  simp only [eval]
  cases ea : eval F C a s with
  | none => simp
  | some p =>
    obtain ⟨⟨k, d⟩, s1⟩ := p
    cases d with
    | bool x =>
      cases x with
      | false => simp
      | true =>
        cases eb : eval F C b s1 with
        | none => simp [eb]
        | some q =>
          obtain ⟨⟨k2, d2⟩, s2⟩ := q
          cases d2 <;> simp [eb]
    | _ => simp
theorem w_or {a b : Ex} : okE F C (.or a b) s Q ↔ okE F C a s fun ra s1 => ∃ x, ra.d = .bool x ∧ (x = false → okE F C b s1 fun rb s2 => ∃ y, rb.d = .bool y ∧ Q ⟨.im, .bool y⟩ s2) ∧ (x = true → Q ⟨.im, .bool true⟩ s1) := by
  unfold okE okO
  simp only [eval]
  cases ea : eval F C a s with
  | none => simp
  | some p =>
    obtain ⟨⟨k, d⟩, s1⟩ := p
    cases d with
    | bool x =>
      cases x with
      | true => simp
      | false =>
        cases eb : eval F C b s1 with
        | none => simp [eb]
        | some q =>
          obtain ⟨⟨k2, d2⟩, s2⟩ := q
          cases d2 <;> simp [eb]
    | _ => simp
theorem w_ife {c a b : Ex} : okE F C (.ife c a b) s Q ↔ okE F C c s fun rc s1 => ∃ x, rc.d = .bool x ∧ (x = true → okE F C a s1 Q) ∧ (x = false → okE F C b s1 Q) := by
  unfold okE okO
  simp only [eval]
  cases ea : eval F C c s with
  | none => simp
  | some p =>
    obtain ⟨⟨k, d⟩, s1⟩ := p
    cases d with
    | bool x => cases x <;> simp
    | _ => simp
theorem w_nil {Q : List Rs → Stt → Prop} : okEL F C [] s Q ↔ Q [] s := by simp only [okEL, okO, evalL]
theorem w_cons {e : Ex} {es : List Ex} {Q : List Rs → Stt → Prop} : okEL F C (e :: es) s Q ↔ okE F C e s fun r s1 => okEL F C es (lockR r s1) fun rs s2 => Q (r :: rs) (unlockR r s1 s2) := by
  unfold okEL okE okO
  simp only [evalL]
  cases ea : eval F C e s with
  | none => simp
  | some p =>
    obtain ⟨ra, s1⟩ := p
    cases eb : evalL F C es (lockR ra s1) with
    | none => simp [eb]
    | some q =>
      obtain ⟨rb, s2⟩ := q
      simp [eb]
theorem w_tup {es : List Ex} : okE F C (.tup es) s Q ↔ okEL F C es s fun rs s1 => rs.all isIm = true ∧ rs.length ≤ sizeLine ∧ Q ⟨.im, .tuple (rs.map (·.d))⟩ s1 := by
  unfold okEL okE okO
  simp only [eval]
  cases ea : evalL F C es s with
  | none => simp
  | some p =>
    obtain ⟨rs, s1⟩ := p
    by_cases h : (rs.all isIm && decide (rs.length ≤ sizeLine)) = true
    · have h' := h
      simp only [Bool.and_eq_true, decide_eq_true_eq] at h'
      simp [h, h'.1, h'.2]
    · simp only [h]
      simp only [Bool.and_eq_true, decide_eq_true_eq, not_and] at h
      simp
      intro h1 h2
      exact absurd h2 (by simpa using h (by simpa using h1))
theorem w_lst {es : List Ex} : okE F C (.lst es) s Q ↔ okEL F C es s fun rs s1 => rs.all isIm = true ∧ rs.length ≤ sizeLine ∧ Q ⟨.fr, .list (rs.map (·.d))⟩ s1 := by
  unfold okEL okE okO
  simp only [eval]
  cases ea : evalL F C es s with
  | none => simp
  | some p =>
    obtain ⟨rs, s1⟩ := p
    by_cases h : (rs.all isIm && decide (rs.length ≤ sizeLine)) = true
    · have h' := h
      simp only [Bool.and_eq_true, decide_eq_true_eq] at h'
      simp [h, h'.1, h'.2]
    · simp only [h]
      simp only [Bool.and_eq_true, decide_eq_true_eq, not_and] at h
      simp
      intro h1 h2
      exact absurd h2 (by simpa using h (by simpa using h1))
theorem w_slc {a : Ex} {lo hi : List Ex} : okE F C (.slc a lo hi) s Q ↔ okE F C a s fun ra s1 => okEL F C lo (lockR ra s1) fun rl s2 => okEL F C hi s2 fun rh s3 => ∃ l h r, optI rl = some l ∧ optI rh = some h ∧ slcD ra.d l h = some r ∧ Q r (unlockR ra s1 s3) := by
  unfold okEL okE okO
  simp only [eval]
  cases ea : eval F C a s with
  | none => simp
  | some p =>
    obtain ⟨ra, s1⟩ := p
    cases eb : evalL F C lo (lockR ra s1) with
    | none => simp [eb]
    | some q =>
      obtain ⟨rl, s2⟩ := q
      cases ec : evalL F C hi s2 with
      | none => simp [eb, ec]
      | some q =>
        obtain ⟨rh, s3⟩ := q
        cases e1 : optI rl with
        | none => simp [eb, ec, e1]
        | some l =>
          cases e2 : optI rh with
          | none => simp [eb, ec, e1, e2]
          | some h => cases e3 : slcD ra.d l h <;> simp [eb, ec, e1, e2, e3]
theorem w_call {f : Nat} {es : List Ex} : okE F C (.call f es) s Q ↔ okEL F C es s fun rs s1 => (F f).io = false ∧ (F f).fr = false ∧ ∃ d p, (F f).sem (rs.map (·.d)) = some (d, p) ∧ (rs.all isIm || flat d) = true ∧ Q ⟨.im, d⟩ s1 := by
  unfold okEL okE okO
  simp only [eval]
  cases ea : evalL F C es s with
  | none => simp
  | some p =>
    obtain ⟨rs, s1⟩ := p
    cases h1 : (F f).io <;> cases h2 : (F f).fr <;> simp [h1, h2]
    cases e3 : (F f).sem (rs.map (·.d)) with
    | none => simp [e3]
    | some q =>
      obtain ⟨d, p⟩ := q
      simp
      by_cases h : (∀ x ∈ rs, isIm x = true) ∨ flat d = true
      · simp [h]
      · simp [h]
theorem w_calli {f i : Nat} {es : List Ex} : okE F C (.calli f i es) s Q ↔ (match s[i]? with
    | some (.ow _) => okEL F C es s fun rs s1 => (match s1[i]? with
      | some (.ow p) => (F f).io = true ∧ (F f).fr = false ∧ rs.all isIm = true ∧ ∃ d p', (F f).sem (p :: rs.map (·.d)) = some (d, p') ∧ Q ⟨.im, d⟩ (s1.set i (.ow p'))
      | _ => False)
    | _ => False) := by
  unfold okEL okE okO
  simp only [eval]
  cases h0 : s[i]? with
  | none => simp
  | some x0 =>
    cases x0 with
    | ow p0 =>
      simp only
      cases ea : evalL F C es s with
      | none => simp
      | some q =>
        obtain ⟨rs, s1⟩ := q
        simp only
        cases hs : s1[i]? with
        | none => simp
        | some x =>
          cases x with
          | ow p =>
            simp only
            cases h1 : (F f).io <;> cases h2 : (F f).fr <;> cases h3 : rs.all isIm <;> simp only [Bool.true_and, Bool.false_and, Bool.not_true, Bool.not_false, Bool.false_eq_true, if_true, if_false, true_and, false_and, and_false, reduceCtorEq]
            cases e3 : (F f).sem (p :: rs.map (·.d)) with
            | none => simp
            | some q =>
              obtain ⟨d, p'⟩ := q
              exact ⟨fun h => ⟨d, p', rfl, h⟩, fun ⟨_, _, e, h⟩ => by cases e; exact h⟩
          | _ => simp
    | _ => simp
section
variable {Q : Fl → Stt → Prop}
theorem w_set {i : Nat} {e : Ex} : okS F C (.set i false e) s Q ↔ okE F C e s fun r s1 => isIm r = true ∧ ∃ t, putS s1 i (.im r.d) = some t ∧ Q .nx t := by
  unfold okE okS okO
  simp only [run]
  cases ea : eval F C e s with
  | none => simp
  | some p =>
    obtain ⟨r, s1⟩ := p
    simp only [Bool.false_eq_true, if_false, putR]
    cases h : isIm r
    · simp
    · simp only [if_true, true_and]
      cases putS s1 i (.im r.d) <;> simp
theorem w_unp {is : List Nat} {e : Ex} : okS F C (.unp is e) s Q ↔ okE F C e s fun r s1 => isIm r = true ∧ ∃ t, bindT (.t is) r.d s1 = some t ∧ Q .nx t := by
  unfold okE okS okO
  simp only [run]
  cases ea : eval F C e s with
  | none => simp
  | some p =>
    obtain ⟨r, s1⟩ := p
    simp only
    cases h : isIm r
    · simp
    · simp only [if_true, true_and]
      cases bindT (.t is) r.d s1 <;> simp
theorem w_par {i j : Nat} {a b : Ex} : okS F C (.par i j false false a b) s Q ↔ okE F C a s fun ra s1 => okE F C b s1 fun rb s2 => isIm ra = true ∧ isIm rb = true ∧ ∃ t, putS s2 i (.im ra.d) = some t ∧ ∃ t2, putS t j (.im rb.d) = some t2 ∧ Q .nx t2 := by
  unfold okE okS okO
  simp only [run]
  cases ea : eval F C a s with
  | none => simp
  | some p =>
    obtain ⟨ra, s1⟩ := p
    cases eb : eval F C b s1 with
    | none => simp [eb]
    | some q =>
      obtain ⟨rb, s2⟩ := q
      simp only [eb, Bool.not_false, Bool.and_true, putR]
      cases h : isIm ra <;> cases h2 : isIm rb <;> simp only [Bool.false_eq_true, if_false, if_true, true_and, false_and, reduceCtorEq]
      · cases putS s2 i (.im ra.d) <;> simp
      · cases e1 : putS s2 i (.im ra.d) with
        | none => simp
        | some t =>
          simp only [Option.some.injEq, exists_eq_left']
          cases putS t j (.im rb.d) <;> simp
theorem w_exp {e : Ex} : okS F C (.exp e) s Q ↔ okE F C e s fun r s1 => Q .nx s1 := by
  unfold okE okS okO
  simp only [run]
  cases ea : eval F C e s <;> simp
theorem w_ret {e : Ex} : okS F C (.ret e) s Q ↔ okE F C e s fun r s1 => isIm r = true ∧ Q (.rt r.d) s1 := by
  unfold okE okS okO
  simp only [run]
  cases ea : eval F C e s with
  | none => simp
  | some p =>
    obtain ⟨r, s1⟩ := p
    cases h : isIm r <;> simp [h]
theorem w_retf {e : Ex} : okS F C (.retf e) s Q ↔ okE F C e s fun r s1 => r.k = .fr ∧ Q (.rf r.d) s1 := by
  unfold okE okS okO
  simp only [run]
  cases ea : eval F C e s with
  | none => simp
  | some p =>
    obtain ⟨⟨k, d⟩, s1⟩ := p
    cases k <;> simp
theorem w_new {i f : Nat} {es : List Ex} : okS F C (.new i f es) s Q ↔ okEL F C es s fun rs s1 => rs.all isIm = true ∧ (F f).fr = true ∧ (F f).io = false ∧ ∃ d p, (F f).sem (rs.map (·.d)) = some (d, p) ∧ ∃ t, putS s1 i (.ow d) = some t ∧ Q .nx t := by
  unfold okEL okS okO
  simp only [run]
  cases ea : evalL F C es s with
  | none => simp
  | some q =>
    obtain ⟨rs, s1⟩ := q
    simp only
    cases h1 : (F f).io <;> cases h2 : (F f).fr <;> cases h3 : rs.all isIm <;> simp only [Bool.true_and, Bool.false_and, Bool.and_true, Bool.and_false, Bool.not_true, Bool.not_false, Bool.false_eq_true, if_true, if_false, true_and, false_and, and_false, reduceCtorEq]
    cases e3 : (F f).sem (rs.map (·.d)) with
    | none => simp
    | some q =>
      obtain ⟨d, p⟩ := q
      simp only
      cases e4 : putS s1 i (.ow d) with
      | none => exact ⟨fun h => h.elim, fun ⟨_, _, e, t, e', _⟩ => by cases e; rw [e4] at e'; cases e'⟩
      | some t => exact ⟨fun h => ⟨d, p, rfl, t, e4, h⟩, fun ⟨_, _, e, t, e', h⟩ => by cases e; rw [e4] at e'; cases e'; exact h⟩
theorem w_put {i : Nat} {k e : Ex} : okS F C (.put i k e) s Q ↔ okE F C e s fun r s1 => isIm r = true ∧ (match s1[i]? with
    | some (.ow p) => okE F C k (s1.set i (.lk p)) fun rk s2 => ∃ p', setD p rk.d r.d = some p' ∧ Q .nx (s2.set i (.ow p'))
    | _ => False) := by
  unfold okE okS okO
  simp only [run]
  cases ea : eval F C e s with
  | none => simp
  | some p =>
    obtain ⟨r, s1⟩ := p
    simp only
    cases h : isIm r
    · simp
    · simp only [if_true, true_and]
      cases hs : s1[i]? with
      | none => simp
      | some x =>
        cases x with
        | ow p =>
          simp only
          cases ek : eval F C k (s1.set i (.lk p)) with
          | none => simp
          | some q =>
            obtain ⟨rk, s2⟩ := q
            simp only
            cases setD p rk.d r.d <;> simp
        | _ => simp
theorem w_ite {c : Ex} {a b : List Sx} : okS F C (.ite c a b) s Q ↔ okE F C c s fun rc s1 => ∃ x, rc.d = .bool x ∧ (x = true → okSL F C a s1 Q) ∧ (x = false → okSL F C b s1 Q) := by
  unfold okE okS okSL okO
  simp only [run]
  cases ea : eval F C c s with
  | none => simp
  | some p =>
    obtain ⟨⟨k, d⟩, s1⟩ := p
    cases d with
    | bool x => cases x <;> simp
    | _ => simp
theorem w_brk : okS F C .brk s Q ↔ Q .bk s := by simp only [okS, okO, run]
theorem w_cnt : okS F C .cnt s Q ↔ Q .ct s := by simp only [okS, okO, run]
theorem w_pass : okS F C .pass s Q ↔ Q .nx s := by simp only [okS, okO, run]
theorem w_end : okSL F C [] s Q ↔ Q .nx s := by simp only [okSL, okO, runL]
theorem w_seq {i : Sx} {is : List Sx} : okSL F C (i :: is) s Q ↔ okS F C i s fun f s1 => (f = .nx → okSL F C is s1 Q) ∧ (f ≠ .nx → Q f s1) := by
  unfold okS okSL okO
  simp only [runL]
  cases ea : run F C i s with
  | none => simp
  | some p =>
    obtain ⟨f, s1⟩ := p
    cases f <;> simp
/-- a loop over data by its invariant -/
theorem w_for {tg : Tg} {k : Ik} {its : List Ex} {b : List Sx} (Inv : Nat → Stt → Prop)
    (h : okEL F C its s fun rs s1 => ∃ ds, itD k rs = some ds ∧ Inv 0 (lockL rs s1) ∧ (∀ i t, (hi : i < ds.length) → Inv i t → okO ((bindT tg ds[i] t).map fun t => ((), t)) fun _ t1 => okSL F C b t1 fun f t2 => match f with
      | .nx => Inv (i + 1) t2
      | .ct => Inv (i + 1) t2
      | .bk => Q .nx (unlockL rs s1 t2)
      | f => Q f (unlockL rs s1 t2)) ∧ ∀ t, Inv ds.length t → Q .nx (unlockL rs s1 t)) : okS F C (.for tg k its b) s Q := by
  unfold okS okO
  simp only [run]
  unfold okEL okO at h
  cases ea : evalL F C its s with
  | none => rw [ea] at h; exact h
  | some q =>
    obtain ⟨rs, s1⟩ := q
    rw [ea] at h
    obtain ⟨ds, ed, h0, hs, he⟩ := h
    simp only [ed]
    have key : ∀ (n i : Nat) (t : Stt), n = ds.length - i → i ≤ ds.length → Inv i t → okO (forGo (fun d t => match bindT tg d t with
        | some t1 => runL F C b t1
        | none => none) (ds.drop i) t) fun f t2 => Q f (unlockL rs s1 t2) := by
      intro n
      induction n with
      | zero =>
        intro i t hn hi hI
        have e : i = ds.length := by omega
        subst e
        rw [List.drop_length]
        exact he t hI
      | succ n ih =>
        intro i t hn hi hI
        have hlt : i < ds.length := by omega
        rw [List.drop_eq_getElem_cons hlt]
        have := hs i t hlt hI
        simp only [forGo]
        cases eb : bindT tg ds[i] t with
        | none => rw [eb] at this; exact this.elim
        | some t1 =>
          rw [eb] at this
          simp only [Option.map_some] at this ⊢
          have this : okSL F C b t1 _ := this
          unfold okSL okO at this
          cases er : runL F C b t1 with
          | none => rw [er] at this; exact this.elim
          | some q =>
            obtain ⟨f, t2⟩ := q
            rw [er] at this
            cases f with
            | nx => exact ih (i + 1) t2 (by omega) (by omega) this
            | ct => exact ih (i + 1) t2 (by omega) (by omega) this
            | bk => exact this
            | rt d => exact this
            | rf d => exact this
    have := key _ 0 _ rfl (Nat.zero_le _) h0
    rw [List.drop_zero] at this
    unfold okO at this
    revert this
    cases forGo (fun d t => match bindT tg d t with
        | some t1 => runL F C b t1
        | none => none) ds (lockL rs s1) <;> exact id
/-- while, by its invariant and a measure -/
theorem w_whl {c : Ex} {b : List Sx} (Inv : Stt → Prop) (μ : Stt → Nat) (h0 : Inv s) (h : ∀ t, Inv t → okE F C c t fun r t1 => ∃ x, r.d = .bool x ∧ (x = true → okSL F C b t1 fun f t2 => match f with
      | .nx => Inv t2 ∧ μ t2 < μ t
      | .ct => Inv t2 ∧ μ t2 < μ t
      | .bk => Q .nx t2
      | f => Q f t2) ∧ (x = false → Q .nx t1)) : okS F C (.whl c b) s Q := by
  have key : ∀ (n : Nat) (t : Stt), μ t < n → Inv t → okO (whileN (eval F C c) (runL F C b) n t) Q := by
    intro n
    induction n with
    | zero => intro t hn; omega
    | succ n ih =>
      intro t hn hI
      have := h t hI
      unfold okE okO at this
      unfold whileN
      cases ec : eval F C c t with
      | none => rw [ec] at this; exact this.elim
      | some q =>
        obtain ⟨⟨k, d⟩, t1⟩ := q
        rw [ec] at this
        obtain ⟨x, hx, h1, h2⟩ := this
        simp only at hx
        subst hx
        cases x with
        | false => exact h2 rfl
        | true =>
          simp only
          have h1 := h1 rfl
          unfold okSL okO at h1
          cases er : runL F C b t1 with
          | none => rw [er] at h1; exact h1.elim
          | some q =>
            obtain ⟨f, t2⟩ := q
            rw [er] at h1
            cases f with
            | nx => exact ih t2 (by have := h1.2; omega) h1.1
            | ct => exact ih t2 (by have := h1.2; omega) h1.1
            | bk => exact h1
            | rt d => exact h1
            | rf d => exact h1
  have := key _ s (Nat.lt_succ_self _) h0
  rw [okO_ex] at this
  obtain ⟨f, t, e, q⟩ := this
  unfold okS okO
  simp only [run]
  rw [whileW_of e]
  exact q
end
end
end Ev

/-! Ev14: reasoning about comprehensions. -/
namespace Ev
open PySem
section
variable {F : Nat → Fn} {C : Nat → PyData} {s : Stt} {Q : Rs → Stt → Prop}
theorem w_c0 {Q : Bool → Stt → Prop} : okC F C [] s Q ↔ Q true s := by simp only [okC, okO, evalC]
theorem w_c1 {e : Ex} {es : List Ex} {Q : Bool → Stt → Prop} : okC F C (e :: es) s Q ↔ okE F C e s fun r s1 => ∃ x, r.d = .bool x ∧ (x = true → okC F C es s1 Q) ∧ (x = false → Q false s1) := by
  unfold okC okE okO
  simp only [evalC]
  cases ea : eval F C e s with
  | none => simp
  | some p =>
    obtain ⟨⟨k, d⟩, s1⟩ := p
    cases d with
    | bool x => cases x <;> simp
    | _ => simp
/-- the target bound -/
def okT (tg : Tg) (d : PyData) (t : Stt) (Q : Stt → Prop) : Prop := match bindT tg d t with
  | some t1 => Q t1
  | none => False
theorem compGo_inv {turn : PyData → List PyData → Stt → Option (List PyData × Stt)} {ds : List PyData} (Inv : Nat → List PyData → Stt → Prop) (hs : ∀ i acc t, (hi : i < ds.length) → Inv i acc t → okO (turn ds[i] acc t) (Inv (i + 1))) {acc : List PyData} {t : Stt} (h0 : Inv 0 acc t) :
    okO (compGo turn ds acc t) (Inv ds.length) := by
  have key : ∀ (n i : Nat) (acc : List PyData) (t : Stt), n = ds.length - i → i ≤ ds.length → Inv i acc t → okO (compGo turn (ds.drop i) acc t) (Inv ds.length) := by
    intro n
    induction n with
    | zero =>
      intro i acc t hn hi hI
      have e : i = ds.length := by omega
      subst e
      rw [List.drop_length]
      exact hI
    | succ n ih =>
      intro i acc t hn hi hI
      have hlt : i < ds.length := by omega
      rw [List.drop_eq_getElem_cons hlt]
      have := hs i acc t hlt hI
      simp only [compGo]
      rw [okO_ex] at this
      obtain ⟨acc', t', e, q⟩ := this
      rw [e]
      exact ih (i + 1) acc' t' (by omega) (by omega) q
  have := key _ 0 acc t rfl (Nat.zero_le _) h0
  rw [List.drop_zero] at this
  exact this
theorem turnD_ok {tg : Tg} {cs : List Ex} {e : Ex} {vs : List Nat} {d : PyData} {acc : List PyData} {t : Stt} {I : List PyData → Stt → Prop}
    (h : okT tg d t fun t1 => okC F C cs t1 fun b t2 => (b = true → okE F C e t2 fun r t3 => isIm r = true ∧ acc.length < sizeLine ∧ freeS t3 vs = true ∧ I (acc ++ [r.d]) (wipeS t3 vs)) ∧ (b = false → freeS t2 vs = true ∧ I acc (wipeS t2 vs))) : okO (turnD F C tg cs e vs d acc t) I := by
  unfold okT at h
  unfold turnD
  cases eb : bindT tg d t with
  | none => rw [eb] at h; exact h
  | some t1 =>
    rw [eb] at h
    simp only at h ⊢
    unfold okC okO at h
    cases ec : evalC F C cs t1 with
    | none => rw [ec] at h; exact h.elim
    | some q =>
      obtain ⟨b, t2⟩ := q
      rw [ec] at h
      obtain ⟨h1, h2⟩ := h
      cases b with
      | false =>
        obtain ⟨h3, h4⟩ := h2 rfl
        simp only [h3, if_true]
        exact h4
      | true =>
        have h1 := h1 rfl
        unfold okE okO at h1
        simp only
        cases ee : eval F C e t2 with
        | none => rw [ee] at h1; exact h1.elim
        | some q =>
          obtain ⟨r, t3⟩ := q
          rw [ee] at h1
          obtain ⟨a1, a2, a3, a4⟩ := h1
          simp only [a1, a2, a3, decide_true, Bool.and_self, if_true]
          exact a4
theorem eval_comp {e : Ex} {tg : Tg} {k : Ik} {its cs : List Ex} {own : List (Str × Nat)} : eval F C (.comp e tg k its cs own) s = (match evalL F C its s with
    | some (rs, s1) => match itD k rs with
      | some ds => if freeS s1 (own.map (·.2)) then (match compGo (turnD F C tg cs e (own.map (·.2))) ds [] (wipeS (lockL rs s1) (own.map (·.2))) with
        | some (acc, s2) => some (⟨.fr, .list acc⟩, backS s1 (unlockL rs s1 s2) (own.map (·.2)))
        | none => none) else none
      | none => none
    | none => none) := by
  rw [eval]
  rfl
def turn2 (F : Nat → Fn) (C : Nat → PyData) (tg : Tg) (its1 : List Ex) (tg1 : Tg) (k1 : Ik) (cs : List Ex) (e : Ex) (vs : List Nat) (d : PyData) (acc : List PyData) (t : Stt) : Option (List PyData × Stt) :=
  match bindT tg d t with
  | some t1 => match evalL F C its1 t1 with
    | some (rs1, t2) => match itD k1 rs1 with
      | some ds1 => if freeS t2 (tgIx tg1) && rs1.all isIm then
          (match compGo (turnD F C tg1 cs e (tgIx tg1)) ds1 acc (wipeS t2 (tgIx tg1)) with
          | some (acc, t3) => if freeS t3 vs then some (acc, wipeS t3 vs) else none
          | none => none) else none
      | none => none
    | none => none
  | none => none
theorem eval_comp2 {e : Ex} {tg tg1 : Tg} {k k1 : Ik} {its its1 cs : List Ex} {own : List (Str × Nat)} : eval F C (.comp2 e tg k its tg1 k1 its1 cs own) s = (match evalL F C its s with
    | some (rs, s1) => match itD k rs with
      | some ds => if freeS s1 (own.map (·.2)) then (match compGo (turn2 F C tg its1 tg1 k1 cs e (own.map (·.2))) ds [] (wipeS (lockL rs s1) (own.map (·.2))) with
        | some (acc, s2) => some (⟨.fr, .list acc⟩, backS s1 (unlockL rs s1 s2) (own.map (·.2)))
        | none => none) else none
      | none => none
    | none => none) := by
  rw [eval]
  rfl
theorem w_comp {e : Ex} {tg : Tg} {k : Ik} {its cs : List Ex} {own : List (Str × Nat)} (Inv : Nat → List PyData → Stt → Prop)
    (h : okEL F C its s fun rs s1 => ∃ ds, itD k rs = some ds ∧ freeS s1 (own.map (·.2)) = true ∧ Inv 0 [] (wipeS (lockL rs s1) (own.map (·.2))) ∧
      (∀ i acc t, (hi : i < ds.length) → Inv i acc t → okT tg ds[i] t fun t1 => okC F C cs t1 fun b t2 => (b = true → okE F C e t2 fun r t3 => isIm r = true ∧ acc.length < sizeLine ∧ freeS t3 (own.map (·.2)) = true ∧ Inv (i + 1) (acc ++ [r.d]) (wipeS t3 (own.map (·.2)))) ∧ (b = false → freeS t2 (own.map (·.2)) = true ∧ Inv (i + 1) acc (wipeS t2 (own.map (·.2))))) ∧
      ∀ acc t, Inv ds.length acc t → Q ⟨.fr, .list acc⟩ (backS s1 (unlockL rs s1 t) (own.map (·.2)))) : okE F C (.comp e tg k its cs own) s Q := by
  unfold okEL okO at h
  unfold okE okO
  rw [eval_comp]
  cases ea : evalL F C its s with
  | none => rw [ea] at h; exact h
  | some q =>
    obtain ⟨rs, s1⟩ := q
    rw [ea] at h
    obtain ⟨ds, ed, hf, h0, hs, he⟩ := h
    have q := compGo_inv (turn := turnD F C tg cs e (own.map (·.2))) Inv (fun i acc t hi hI => turnD_ok (hs i acc t hi hI)) h0
    rw [okO_ex] at q
    obtain ⟨acc, t, e1, q⟩ := q
    simp only [ed, hf, if_true, e1]
    exact he acc t q
theorem w_comp2 {e : Ex} {tg tg1 : Tg} {k k1 : Ik} {its its1 cs : List Ex} {own : List (Str × Nat)} (Inv : Nat → List PyData → Stt → Prop) 
    (h : okEL F C its s fun rs s1 => ∃ ds, itD k rs = some ds ∧ freeS s1 (own.map (·.2)) = true ∧ Inv 0 [] (wipeS (lockL rs s1) (own.map (·.2))) ∧
      (∀ i acc t, (hi : i < ds.length) → Inv i acc t → okT tg ds[i] t fun t1 => okEL F C its1 t1 fun rs1 t2 => rs1.all isIm = true ∧ freeS t2 (tgIx tg1) = true ∧ ∃ ds1, itD k1 rs1 = some ds1 ∧ ∃ Inv1 : Nat → List PyData → Stt → Prop, Inv1 0 acc (wipeS t2 (tgIx tg1)) ∧
        (∀ j acc t, (hj : j < ds1.length) → Inv1 j acc t → okT tg1 ds1[j] t fun t1 => okC F C cs t1 fun b t2 => (b = true → okE F C e t2 fun r t3 => isIm r = true ∧ acc.length < sizeLine ∧ freeS t3 (tgIx tg1) = true ∧ Inv1 (j + 1) (acc ++ [r.d]) (wipeS t3 (tgIx tg1))) ∧ (b = false → freeS t2 (tgIx tg1) = true ∧ Inv1 (j + 1) acc (wipeS t2 (tgIx tg1)))) ∧
        ∀ acc t, Inv1 ds1.length acc t → freeS t (own.map (·.2)) = true ∧ Inv (i + 1) acc (wipeS t (own.map (·.2)))) ∧
      ∀ acc t, Inv ds.length acc t → Q ⟨.fr, .list acc⟩ (backS s1 (unlockL rs s1 t) (own.map (·.2)))) : okE F C (.comp2 e tg k its tg1 k1 its1 cs own) s Q := by
  unfold okEL okO at h
  unfold okE okO
  rw [eval_comp2]
  cases ea : evalL F C its s with
  | none => rw [ea] at h; exact h
  | some q =>
    obtain ⟨rs, s1⟩ := q
    rw [ea] at h
    obtain ⟨ds, ed, hf, h0, hs, he⟩ := h
    have q := compGo_inv (ds := ds) (turn := turn2 F C tg its1 tg1 k1 cs e (own.map (·.2))) Inv (fun i acc t hi hI => by
      have := hs i acc t hi hI
      unfold okT at this
      unfold turn2
      cases eb : bindT tg ds[i] t with
      | none => rw [eb] at this; exact this.elim
      | some t1 =>
        rw [eb] at this
        simp only at this ⊢
        cases el : evalL F C its1 t1 with
        | none => rw [el] at this; exact this.elim
        | some q =>
          obtain ⟨rs1, t2⟩ := q
          rw [el] at this
          obtain ⟨a1, a2, ds1, a3, Inv1, a4, a5, a6⟩ := this
          have q := compGo_inv (turn := turnD F C tg1 cs e (tgIx tg1)) Inv1 (fun j acc t hj hI => turnD_ok (a5 j acc t hj hI)) a4
          rw [okO_ex] at q
          obtain ⟨acc', t', e1, q⟩ := q
          obtain ⟨b1, b2⟩ := a6 acc' t' q
          simp only [a3, a2, a1, Bool.and_self, if_true, e1, b1]
          exact b2) h0
    rw [okO_ex] at q
    obtain ⟨acc, t, e1, q⟩ := q
    simp only [ed, hf, if_true, e1]
    exact he acc t q
end
end Ev

set_option autoImplicit false
/-! Ev15: the laws' own small defs: pool, spread, draw, pick. -/
namespace Ev
open PySem
open L2 (atI ixN)
theorem okS.imp {F : Nat → Fn} {C : Nat → PyData} {s : Stt} {e : Sx} {Q Q' : Fl → Stt → Prop} (h : okS F C e s Q) (k : ∀ r t, Q r t → Q' r t) : okS F C e s Q' := okO.imp h k
theorem okSL.imp {F : Nat → Fn} {C : Nat → PyData} {s : Stt} {e : List Sx} {Q Q' : Fl → Stt → Prop} (h : okSL F C e s Q) (k : ∀ r t, Q r t → Q' r t) : okSL F C e s Q' := okO.imp h k
theorem okE.imp {F : Nat → Fn} {C : Nat → PyData} {s : Stt} {e : Ex} {Q Q' : Rs → Stt → Prop} (h : okE F C e s Q) (k : ∀ r t, Q r t → Q' r t) : okE F C e s Q' := okO.imp h k
section
variable {F : Nat → Fn} {C : Nat → PyData} {s s1 : Stt} {i : Sx} {is : List Sx} {Q : Fl → Stt → Prop}
theorem step (h : run F C i s = some (.nx, s1)) (k : okSL F C is s1 Q) : okSL F C (i :: is) s Q := by
  unfold okSL okO at k ⊢
  simp only [runL, h]
  exact k
theorem stepQ {Q0 : Fl → Stt → Prop} (h : okS F C i s Q0) (k : ∀ f t, Q0 f t → (f = .nx → okSL F C is t Q) ∧ (f ≠ .nx → Q f t)) : okSL F C (i :: is) s Q := by
  rw [w_seq]
  exact okO.imp h k
theorem stepN {Q0 : Stt → Prop} (h : okS F C i s fun f t => f = .nx ∧ Q0 t) (k : ∀ t, Q0 t → okSL F C is t Q) : okSL F C (i :: is) s Q := stepQ h fun f t h => ⟨fun _ => k t h.2, fun z => absurd h.1 z⟩
theorem stepR {f : Fl} (h : run F C i s = some (f, s1)) (hf : f ≠ .nx) (k : Q f s1) : okSL F C (i :: is) s Q := by
  unfold okSL okO
  simp only [runL, h]
  cases f <;> first | exact absurd rfl hf | exact k
theorem lastQ (k : Q .nx s) : okSL F C [] s Q := by
  unfold okSL okO
  simp only [runL]
  exact k
end
theorem eqInt {x y : Int} : eqD (.int x) (.int y) = some (decide (x = y)) := rfl
theorem eqBool {x y : Bool} : eqD (.bool x) (.bool y) = some (decide (x = y)) := rfl
theorem eqStr {x y : Str} : eqD (.str x) (.str y) = some (decide (x = y)) := rfl
theorem eqNone : eqD .none .none = some true := rfl
theorem at0 {α : Type} {a : α} {l : List α} : atI (a :: l) 0 = some a := by simp [atI, ixN]
theorem at1 {α : Type} {a b : α} {l : List α} : atI (a :: b :: l) 1 = some b := L2.atI_nat (j := 1) rfl
theorem at2 {α : Type} {a b c : α} {l : List α} : atI (a :: b :: c :: l) 2 = some c := L2.atI_nat (j := 2) rfl
theorem at3 {α : Type} {a b c d : α} {l : List α} : atI (a :: b :: c :: d :: l) 3 = some d := L2.atI_nat (j := 3) rfl
theorem at4 {α : Type} {a b c d e : α} {l : List α} : atI (a :: b :: c :: d :: e :: l) 4 = some e := L2.atI_nat (j := 4) rfl
theorem setP1 {a b c d e x : PyData} : setD (.list [a, b, c, d, e]) (.int 1) x = some (.list [a, x, c, d, e]) := rfl
theorem setP2 {a b c d e x : PyData} : setD (.list [a, b, c, d, e]) (.int 2) x = some (.list [a, b, x, d, e]) := rfl
theorem setP3 {a b c d e x : PyData} : setD (.list [a, b, c, d, e]) (.int 3) x = some (.list [a, b, c, x, e]) := rfl
theorem sem_ok {F : Nat → Fn} {C : Nat → PyData} {n : Nat} {io fr : Bool} {ir : List Sx} {ds : List PyData} {R : PyData → PyData → Prop} (h : okSL F C ir (entry n io ds) fun f s' => ∃ d p, leave io fr (some (f, s')) = some (d, p) ∧ R d p) : ∃ d p, semOf F C n io fr ir ds = some (d, p) ∧ R d p := by
  unfold okSL at h
  rw [okO_ex] at h
  obtain ⟨f, s', e, d, p, h1, h2⟩ := h
  refine ⟨d, p, ?_, h2⟩
  unfold semOf
  rw [e]
  exact h1
/-- of a def without a list that changes -/
theorem sem_rt {F : Nat → Fn} {C : Nat → PyData} {n : Nat} {ir : List Sx} {ds : List PyData} {d : PyData} (h : okSL F C ir (entry n false ds) fun f s' => f = .rt d) : semOf F C n false false ir ds = some (d, .none) := by
  unfold okSL at h
  rw [okO_ex] at h
  obtain ⟨f, s', e, h1⟩ := h
  unfold semOf
  rw [e, h1]
  rfl
section
variable {F : Nat → Fn} {C : Nat → PyData} {s : Stt}
theorem l_for {Q : Fl → Stt → Prop} {tg : Tg} {k : Ik} {its : List Ex} {b : List Sx} {rs : List Rs} {s1 : Stt} {ds : List PyData} (hI : evalL F C its s = some (rs, s1)) (hd : itD k rs = some ds) (Inv : Nat → Stt → Prop) (h0 : Inv 0 (lockL rs s1))
    (hs : ∀ i t, (hi : i < ds.length) → Inv i t → okT tg ds[i] t fun t1 => okSL F C b t1 fun f t2 => match f with
      | .nx => Inv (i + 1) t2
      | .ct => Inv (i + 1) t2
      | .bk => Q .nx (unlockL rs s1 t2)
      | f => Q f (unlockL rs s1 t2)) (he : ∀ t, Inv ds.length t → Q .nx (unlockL rs s1 t)) : okS F C (.for tg k its b) s Q := by
  refine w_for Inv ?_
  unfold okEL
  rw [hI]
  refine ⟨ds, hd, h0, fun i t hi hI => ?_, he⟩
  have := hs i t hi hI
  unfold okT at this
  unfold okO
  cases e : bindT tg ds[i] t with
  | none => rw [e] at this; exact this
  | some t1 => rw [e] at this; exact this
/-- .. whose body goes on or returns -/
theorem l_forR {Q : Fl → Stt → Prop} {tg : Tg} {k : Ik} {its : List Ex} {b : List Sx} {rs : List Rs} {s1 : Stt} {ds : List PyData} (hI : evalL F C its s = some (rs, s1)) (hd : itD k rs = some ds) (Inv : Nat → Stt → Prop) (R : PyData → Stt → Prop) (h0 : Inv 0 (lockL rs s1))
    (hs : ∀ i t, (hi : i < ds.length) → Inv i t → okT tg ds[i] t fun t1 => okSL F C b t1 fun f t2 => (f = .nx → Inv (i + 1) t2) ∧ (f ≠ .nx → ∃ d, f = .rt d ∧ R d t2)) (hr : ∀ d t, R d t → Q (.rt d) (unlockL rs s1 t)) (he : ∀ t, Inv ds.length t → Q .nx (unlockL rs s1 t)) : okS F C (.for tg k its b) s Q := by
  refine l_for hI hd Inv h0 (fun i t hi hI => ?_) he
  have := hs i t hi hI
  unfold okT at this ⊢
  cases e : bindT tg ds[i] t with
  | none => rw [e] at this; exact this
  | some t1 =>
    rw [e] at this
    refine okO.imp this fun f t2 h => ?_
    cases f with
    | nx => exact h.1 rfl
    | rt d =>
      obtain ⟨d', e', r⟩ := h.2 (fun z => nomatch z)
      cases e'
      exact hr d t2 r
    | ct => obtain ⟨d', e', r⟩ := h.2 (fun z => nomatch z); cases e'
    | bk => obtain ⟨d', e', r⟩ := h.2 (fun z => nomatch z); cases e'
    | rf d => obtain ⟨d', e', r⟩ := h.2 (fun z => nomatch z); cases e'
theorem l_forN {Q : Fl → Stt → Prop} {tg : Tg} {k : Ik} {its : List Ex} {b : List Sx} {rs : List Rs} {s1 : Stt} {ds : List PyData} (hI : evalL F C its s = some (rs, s1)) (hd : itD k rs = some ds) (Inv : Nat → Stt → Prop) (h0 : Inv 0 (lockL rs s1))
    (hs : ∀ i t, (hi : i < ds.length) → Inv i t → okT tg ds[i] t fun t1 => okSL F C b t1 fun f t2 => f = .nx ∧ Inv (i + 1) t2) (he : ∀ t, Inv ds.length t → Q .nx (unlockL rs s1 t)) : okS F C (.for tg k its b) s Q := by
  refine l_forR hI hd Inv (fun _ _ => False) h0 (fun i t hi hI => ?_) (fun _ _ h => h.elim) he
  have := hs i t hi hI
  unfold okT at this ⊢
  cases e : bindT tg ds[i] t with
  | none => rw [e] at this; exact this
  | some t1 =>
    rw [e] at this
    exact okO.imp this fun f t2 h => ⟨fun _ => h.2, fun z => absurd h.1 z⟩
theorem l_comp {Q : Rs → Stt → Prop} {e : Ex} {tg : Tg} {k : Ik} {its cs : List Ex} {own : List (Str × Nat)} {rs : List Rs} {s1 : Stt} {ds : List PyData} (hI : evalL F C its s = some (rs, s1)) (hd : itD k rs = some ds) (hf : freeS s1 (own.map (·.2)) = true) (Inv : Nat → List PyData → Stt → Prop) (h0 : Inv 0 [] (wipeS (lockL rs s1) (own.map (·.2))))
    (hs : ∀ i acc t, (hi : i < ds.length) → Inv i acc t → okT tg ds[i] t fun t1 => okC F C cs t1 fun b t2 => (b = true → okE F C e t2 fun r t3 => isIm r = true ∧ acc.length < sizeLine ∧ freeS t3 (own.map (·.2)) = true ∧ Inv (i + 1) (acc ++ [r.d]) (wipeS t3 (own.map (·.2)))) ∧ (b = false → freeS t2 (own.map (·.2)) = true ∧ Inv (i + 1) acc (wipeS t2 (own.map (·.2)))))
    (he : ∀ acc t, Inv ds.length acc t → Q ⟨.fr, .list acc⟩ (backS s1 (unlockL rs s1 t) (own.map (·.2)))) : okE F C (.comp e tg k its cs own) s Q := by
  refine w_comp Inv ?_
  unfold okEL
  rw [hI]
  exact ⟨ds, hd, hf, h0, hs, he⟩
theorem l_comp2 {Q : Rs → Stt → Prop} {e : Ex} {tg tg1 : Tg} {k k1 : Ik} {its its1 cs : List Ex} {own : List (Str × Nat)} {rs : List Rs} {s1 : Stt} {ds : List PyData} (hI : evalL F C its s = some (rs, s1)) (hd : itD k rs = some ds) (hf : freeS s1 (own.map (·.2)) = true) (Inv : Nat → List PyData → Stt → Prop) (h0 : Inv 0 [] (wipeS (lockL rs s1) (own.map (·.2))))
    (hs : ∀ i acc t, (hi : i < ds.length) → Inv i acc t → okT tg ds[i] t fun t1 => okEL F C its1 t1 fun rs1 t2 => rs1.all isIm = true ∧ freeS t2 (tgIx tg1) = true ∧ ∃ ds1, itD k1 rs1 = some ds1 ∧ ∃ Inv1 : Nat → List PyData → Stt → Prop, Inv1 0 acc (wipeS t2 (tgIx tg1)) ∧
        (∀ j acc t, (hj : j < ds1.length) → Inv1 j acc t → okT tg1 ds1[j] t fun t1 => okC F C cs t1 fun b t2 => (b = true → okE F C e t2 fun r t3 => isIm r = true ∧ acc.length < sizeLine ∧ freeS t3 (tgIx tg1) = true ∧ Inv1 (j + 1) (acc ++ [r.d]) (wipeS t3 (tgIx tg1))) ∧ (b = false → freeS t2 (tgIx tg1) = true ∧ Inv1 (j + 1) acc (wipeS t2 (tgIx tg1)))) ∧
        ∀ acc t, Inv1 ds1.length acc t → freeS t (own.map (·.2)) = true ∧ Inv (i + 1) acc (wipeS t (own.map (·.2))))
    (he : ∀ acc t, Inv ds.length acc t → Q ⟨.fr, .list acc⟩ (backS s1 (unlockL rs s1 t) (own.map (·.2)))) : okE F C (.comp2 e tg k its tg1 k1 its1 cs own) s Q := by
  refine w_comp2 Inv ?_
  unfold okEL
  rw [hI]
  exact ⟨ds, hd, hf, h0, hs, he⟩
end
theorem lenItd {j : Int} (h : 0 ≤ j) (h2 : j < 2 ^ 62) : itD .r1 [⟨.im, .int j⟩] = some (rng 0 j) := by
  unfold itD
  simp only
  rw [if_pos ⟨by omega, h2⟩]
theorem rng_len {a b : Int} : (rng a b).length = (b - a).toNat := by simp [rng]
theorem rng_get {a b : Int} {i : Nat} (h : i < (rng a b).length) : (rng a b)[i] = .int (a + i) := by simp [rng]
def ir__law_spread : List Sx := [.set 1 false (.bin .mod (.b1 .int (.nm 0)) (.cs (PyData.int 2147483647))),
  .set 2 false (.cs (PyData.int 1)),
  .for (.n 3) .r1 [(.cs (PyData.int 4))] [.set 1 false (.bin .mod (.b1 .int (.bin .add (.bin .add (.bin .mul (.nm 1) (.cs (PyData.int 48271))) (.cs (PyData.int 12345))) (.nm 3))) (.cs (PyData.int 2147483647))),
  .set 2 false (.bin .add (.bin .mul (.nm 2) (.cs (PyData.int 2147483647))) (.nm 1))],
  .ret (.nm 2)]
theorem spread_sem {F : Nat → Fn} {C : Nat → PyData} (c : Int) : ∃ v, semOf F C 4 false false ir__law_spread [.int c] = some (.int v, .none) := by
  have : ∃ d p, semOf F C 4 false false ir__law_spread [.int c] = some (d, p) ∧ ∃ v, d = .int v ∧ p = .none := by
    refine sem_ok ?_
    unfold ir__law_spread
    show okSL F C _ [.im (.int c), .no, .no, .no] _
    refine step (by simp only [sizeLine, List.length_cons, List.length_nil, Nat.zero_add, okSL, okS, okE, okEL, okC, okO, runL, run, eval, evalL, evalC, putR, binD, addD, cmpD, b1D, b2D, isiD, subD, lenD, itemsD, ltD, lockR, unlockR, putS, pinned, isIm, optI, setP1, setP2, setP3, at0, at1, at2, at3, at4, decide_eq_true_eq, decide_eq_false_iff_not, okT, bindT, eqInt, eqBool, eqStr, eqNone, List.getElem?_cons_zero, List.getElem?_cons_succ, List.set_cons_zero, List.set_cons_succ, Option.some.injEq, exists_eq_left', exists_eq_left, exists_eq_right, exists_eq_right', and_true, true_and, and_false, false_and, or_true, true_or, or_false, false_or, if_true, if_false, List.all_cons, List.all_nil, List.map_cons, List.map_nil, Bool.and_true, Bool.true_and, Bool.and_false, Bool.false_and, reduceCtorEq, ne_eq, not_true, not_false_eq_true, forall_const, PyData.bool.injEq, PyData.int.injEq, PyData.str.injEq, PyData.list.injEq, PyData.tuple.injEq, Bool.false_eq_true, Bool.not_true, Bool.not_false, decide_true, decide_false, forall_eq', forall_eq, false_implies, true_implies, Option.map_some, Option.map_none, imp_self, implies_true, Bool.true_eq_false, ↓reduceIte, Int.reduceLT, Int.reduceLE, Int.reducePow, Int.reduceNeg, Int.reduceAdd, Int.reduceMul, Int.reduceSub, Int.reduceEq, Nat.reduceAdd, Nat.reducePow, Nat.reduceLT, Nat.reduceMul, Nat.reduceSub, Nat.reduceLeDiff, Nat.reduceEqDiff, and_self, or_self]; rfl) ?_
    refine step (by simp only [sizeLine, List.length_cons, List.length_nil, Nat.zero_add, okSL, okS, okE, okEL, okC, okO, runL, run, eval, evalL, evalC, putR, binD, addD, cmpD, b1D, b2D, isiD, subD, lenD, itemsD, ltD, lockR, unlockR, putS, pinned, isIm, optI, setP1, setP2, setP3, at0, at1, at2, at3, at4, decide_eq_true_eq, decide_eq_false_iff_not, okT, bindT, eqInt, eqBool, eqStr, eqNone, List.getElem?_cons_zero, List.getElem?_cons_succ, List.set_cons_zero, List.set_cons_succ, Option.some.injEq, exists_eq_left', exists_eq_left, exists_eq_right, exists_eq_right', and_true, true_and, and_false, false_and, or_true, true_or, or_false, false_or, if_true, if_false, List.all_cons, List.all_nil, List.map_cons, List.map_nil, Bool.and_true, Bool.true_and, Bool.and_false, Bool.false_and, reduceCtorEq, ne_eq, not_true, not_false_eq_true, forall_const, PyData.bool.injEq, PyData.int.injEq, PyData.str.injEq, PyData.list.injEq, PyData.tuple.injEq, Bool.false_eq_true, Bool.not_true, Bool.not_false, decide_true, decide_false, forall_eq', forall_eq, false_implies, true_implies, Option.map_some, Option.map_none, imp_self, implies_true, Bool.true_eq_false, ↓reduceIte, Int.reduceLT, Int.reduceLE, Int.reducePow, Int.reduceNeg, Int.reduceAdd, Int.reduceMul, Int.reduceSub, Int.reduceEq, Nat.reduceAdd, Nat.reducePow, Nat.reduceLT, Nat.reduceMul, Nat.reduceSub, Nat.reduceLeDiff, Nat.reduceEqDiff, and_self, or_self]; rfl) ?_
    refine stepN (Q0 := fun s => ∃ m t k, s = [.im (.int c), .im (.int m), .im (.int t), k]) ?_ ?_
    · refine l_forN rfl (lenItd (by decide) (by decide)) (fun i s => ∃ m t k, s = [.im (.int c), .im (.int m), .im (.int t), k] ∧ (k = .no ∨ ∃ d, k = .im d)) ⟨_, _, _, rfl, .inl rfl⟩ ?_ ?_
      · rintro i t hi ⟨m, u, k, rfl, hk⟩
        rw [rng_get hi]
        rcases hk with rfl | ⟨d, rfl⟩
        all_goals
          simp only [sizeLine, List.length_cons, List.length_nil, Nat.zero_add, okSL, okS, okE, okEL, okC, okO, runL, run, eval, evalL, evalC, putR, binD, addD, cmpD, b1D, b2D, isiD, subD, lenD, itemsD, ltD, lockR, unlockR, putS, pinned, isIm, optI, setP1, setP2, setP3, at0, at1, at2, at3, at4, decide_eq_true_eq, decide_eq_false_iff_not, okT, bindT, eqInt, eqBool, eqStr, eqNone, List.getElem?_cons_zero, List.getElem?_cons_succ, List.set_cons_zero, List.set_cons_succ, Option.some.injEq, exists_eq_left', exists_eq_left, exists_eq_right, exists_eq_right', and_true, true_and, and_false, false_and, or_true, true_or, or_false, false_or, if_true, if_false, List.all_cons, List.all_nil, List.map_cons, List.map_nil, Bool.and_true, Bool.true_and, Bool.and_false, Bool.false_and, reduceCtorEq, ne_eq, not_true, not_false_eq_true, forall_const, PyData.bool.injEq, PyData.int.injEq, PyData.str.injEq, PyData.list.injEq, PyData.tuple.injEq, Bool.false_eq_true, Bool.not_true, Bool.not_false, decide_true, decide_false, forall_eq', forall_eq, false_implies, true_implies, Option.map_some, Option.map_none, imp_self, implies_true, Bool.true_eq_false, ↓reduceIte, Int.reduceLT, Int.reduceLE, Int.reducePow, Int.reduceNeg, Int.reduceAdd, Int.reduceMul, Int.reduceSub, Int.reduceEq, Nat.reduceAdd, Nat.reducePow, Nat.reduceLT, Nat.reduceMul, Nat.reduceSub, Nat.reduceLeDiff, Nat.reduceEqDiff, and_self, or_self]
          exact ⟨_, _, _, rfl, .inr ⟨_, rfl⟩⟩
      · rintro t ⟨m, u, k, rfl, hk⟩
        exact ⟨rfl, _, _, _, rfl⟩
    · rintro s ⟨m, u, k, rfl⟩
      refine stepR (f := .rt _) (by simp only [sizeLine, List.length_cons, List.length_nil, Nat.zero_add, okSL, okS, okE, okEL, okC, okO, runL, run, eval, evalL, evalC, putR, binD, addD, cmpD, b1D, b2D, isiD, subD, lenD, itemsD, ltD, lockR, unlockR, putS, pinned, isIm, optI, setP1, setP2, setP3, at0, at1, at2, at3, at4, decide_eq_true_eq, decide_eq_false_iff_not, okT, bindT, eqInt, eqBool, eqStr, eqNone, List.getElem?_cons_zero, List.getElem?_cons_succ, List.set_cons_zero, List.set_cons_succ, Option.some.injEq, exists_eq_left', exists_eq_left, exists_eq_right, exists_eq_right', and_true, true_and, and_false, false_and, or_true, true_or, or_false, false_or, if_true, if_false, List.all_cons, List.all_nil, List.map_cons, List.map_nil, Bool.and_true, Bool.true_and, Bool.and_false, Bool.false_and, reduceCtorEq, ne_eq, not_true, not_false_eq_true, forall_const, PyData.bool.injEq, PyData.int.injEq, PyData.str.injEq, PyData.list.injEq, PyData.tuple.injEq, Bool.false_eq_true, Bool.not_true, Bool.not_false, decide_true, decide_false, forall_eq', forall_eq, false_implies, true_implies, Option.map_some, Option.map_none, imp_self, implies_true, Bool.true_eq_false, ↓reduceIte, Int.reduceLT, Int.reduceLE, Int.reducePow, Int.reduceNeg, Int.reduceAdd, Int.reduceMul, Int.reduceSub, Int.reduceEq, Nat.reduceAdd, Nat.reducePow, Nat.reduceLT, Nat.reduceMul, Nat.reduceSub, Nat.reduceLeDiff, Nat.reduceEqDiff, and_self, or_self]; rfl) (fun z => nomatch z) ⟨_, _, rfl, u, rfl, rfl⟩
  obtain ⟨d, p, e, v, rfl, rfl⟩ := this
  exact ⟨v, e⟩
def ir__law_draw (f__law_spread : Nat) : List Sx := [.ite (.and (.cmp .le (.sub (.nm 0) (.cs (PyData.int 2))) (.cs (PyData.int 0))) (.cmp .lt (.sub (.nm 0) (.cs (PyData.int 1))) (.b1 .len (.sub (.nm 0) (.cs (PyData.int 0)))))) [.set 2 false (.sub (.sub (.nm 0) (.cs (PyData.int 0))) (.sub (.nm 0) (.cs (PyData.int 1)))),
  .put 0 (.cs (PyData.int 1)) (.bin .add (.sub (.nm 0) (.cs (PyData.int 1))) (.cs (PyData.int 1))),
  .put 0 (.cs (PyData.int 2)) (.nm 2),
  .ite (.cmp .lt (.nm 2) (.cs (PyData.int 1000000000000000000))) [.put 0 (.cs (PyData.int 2)) (.call f__law_spread [(.nm 2)])] []] [],
  .put 0 (.cs (PyData.int 3)) (.bin .add (.sub (.nm 0) (.cs (PyData.int 3))) (.cs (PyData.int 1))),
  .ite (.cmp .le (.sub (.nm 0) (.cs (PyData.int 2))) (.cs (PyData.int 0))) [.set 3 false (.bin .mod (.b1 .int (.bin .add (.bin .add (.bin .mul (.sub (.nm 0) (.cs (PyData.int 4))) (.cs (PyData.int 48271))) (.bin .mul (.sub (.nm 0) (.cs (PyData.int 3))) (.cs (PyData.int 69621)))) (.cs (PyData.int 1)))) (.cs (PyData.int 2147483647))),
  .set 3 false (.bin .mod (.b1 .int (.bin .add (.bin .mul (.nm 3) (.cs (PyData.int 16807))) (.sub (.nm 0) (.cs (PyData.int 3))))) (.cs (PyData.int 2147483629))),
  .ret (.bin .mod (.bin .fdiv (.nm 3) (.cs (PyData.int 5))) (.nm 1))] [],
  .set 4 false (.bin .mod (.b1 .int (.sub (.nm 0) (.cs (PyData.int 2)))) (.nm 1)),
  .put 0 (.cs (PyData.int 2)) (.bin .fdiv (.sub (.nm 0) (.cs (PyData.int 2))) (.nm 1)),
  .ret (.nm 4)]
/-- a pool -/
def PoolOk (p : PyData) : Prop := ∃ (cells : List Int) (a b c d : Int), 0 ≤ a ∧ p = .list [.list (cells.map .int), .int a, .int b, .int c, .int d]
theorem atCells {cells : List Int} {a : Int} (h0 : 0 ≤ a) (h1 : a < (cells.map PyData.int).length) : ∃ x, atI (cells.map PyData.int) a = some (.int x) := by
  obtain ⟨n, rfl⟩ := Int.eq_ofNat_of_zero_le h0
  have hn : n < cells.length := by rw [List.length_map] at h1; omega
  refine ⟨cells[n], ?_⟩
  unfold atI ixN
  rw [if_pos h0, if_pos h1]
  simp [hn]
theorem draw_sem {F : Nat → Fn} {C : Nat → PyData} {sp : Nat} (hsp : ∀ c, ∃ v, (F sp).sem [.int c] = some (.int v, .none)) (hio : (F sp).io = false) (hfr : (F sp).fr = false) {p : PyData} (hp : PoolOk p) {many : Int} (h0 : 0 < many) (h1 : many < 1073741824) :
    ∃ v p', semOf F C 5 true false (ir__law_draw sp) [p, .int many] = some (.int v, p') ∧ 0 ≤ v ∧ v < many ∧ PoolOk p' := by
  obtain ⟨cells, a, b, c, d, ha, rfl⟩ := hp
  have key : ∃ r q, semOf F C 5 true false (ir__law_draw sp) [.list [.list (cells.map .int), .int a, .int b, .int c, .int d], .int many] = some (r, q) ∧ ∃ v, r = .int v ∧ 0 ≤ v ∧ v < many ∧ PoolOk q := by
    refine sem_ok ?_
    unfold ir__law_draw
    show okSL F C _ [.ow (.list [.list (cells.map .int), .int a, .int b, .int c, .int d]), .im (.int many), .no, .no, .no] _
    refine stepN (Q0 := fun s => ∃ a b k, 0 ≤ a ∧ s = [.ow (.list [.list (cells.map .int), .int a, .int b, .int c, .int d]), .im (.int many), k, .no, .no]) ?_ ?_
    · by_cases hb : b ≤ 0
      · by_cases hl : a < (cells.map PyData.int).length
        · obtain ⟨x, hx⟩ := atCells ha hl
          obtain ⟨v, hv⟩ := hsp x
          by_cases h18 : x < 1000000000000000000
          · simp only [sizeLine, List.length_cons, List.length_nil, Nat.zero_add, okSL, okS, okE, okEL, okC, okO, runL, run, eval, evalL, evalC, putR, binD, addD, cmpD, b1D, b2D, isiD, subD, lenD, itemsD, ltD, lockR, unlockR, putS, pinned, isIm, optI, setP1, setP2, setP3, at0, at1, at2, at3, at4, decide_eq_true_eq, decide_eq_false_iff_not, okT, bindT, eqInt, eqBool, eqStr, eqNone, List.getElem?_cons_zero, List.getElem?_cons_succ, List.set_cons_zero, List.set_cons_succ, Option.some.injEq, exists_eq_left', exists_eq_left, exists_eq_right, exists_eq_right', and_true, true_and, and_false, false_and, or_true, true_or, or_false, false_or, if_true, if_false, List.all_cons, List.all_nil, List.map_cons, List.map_nil, Bool.and_true, Bool.true_and, Bool.and_false, Bool.false_and, reduceCtorEq, ne_eq, not_true, not_false_eq_true, forall_const, PyData.bool.injEq, PyData.int.injEq, PyData.str.injEq, PyData.list.injEq, PyData.tuple.injEq, Bool.false_eq_true, Bool.not_true, Bool.not_false, decide_true, decide_false, forall_eq', forall_eq, false_implies, true_implies, Option.map_some, Option.map_none, imp_self, implies_true, Bool.true_eq_false, ↓reduceIte, Int.reduceLT, Int.reduceLE, Int.reducePow, Int.reduceNeg, Int.reduceAdd, Int.reduceMul, Int.reduceSub, Int.reduceEq, Nat.reduceAdd, Nat.reducePow, Nat.reduceLT, Nat.reduceMul, Nat.reduceSub, Nat.reduceLeDiff, Nat.reduceEqDiff, and_self, or_self, hb, hl, hx, hv, hio, hfr, h18]
            exact ⟨rfl, a + 1, _, _, by omega, rfl⟩
          · simp only [sizeLine, List.length_cons, List.length_nil, Nat.zero_add, okSL, okS, okE, okEL, okC, okO, runL, run, eval, evalL, evalC, putR, binD, addD, cmpD, b1D, b2D, isiD, subD, lenD, itemsD, ltD, lockR, unlockR, putS, pinned, isIm, optI, setP1, setP2, setP3, at0, at1, at2, at3, at4, decide_eq_true_eq, decide_eq_false_iff_not, okT, bindT, eqInt, eqBool, eqStr, eqNone, List.getElem?_cons_zero, List.getElem?_cons_succ, List.set_cons_zero, List.set_cons_succ, Option.some.injEq, exists_eq_left', exists_eq_left, exists_eq_right, exists_eq_right', and_true, true_and, and_false, false_and, or_true, true_or, or_false, false_or, if_true, if_false, List.all_cons, List.all_nil, List.map_cons, List.map_nil, Bool.and_true, Bool.true_and, Bool.and_false, Bool.false_and, reduceCtorEq, ne_eq, not_true, not_false_eq_true, forall_const, PyData.bool.injEq, PyData.int.injEq, PyData.str.injEq, PyData.list.injEq, PyData.tuple.injEq, Bool.false_eq_true, Bool.not_true, Bool.not_false, decide_true, decide_false, forall_eq', forall_eq, false_implies, true_implies, Option.map_some, Option.map_none, imp_self, implies_true, Bool.true_eq_false, ↓reduceIte, Int.reduceLT, Int.reduceLE, Int.reducePow, Int.reduceNeg, Int.reduceAdd, Int.reduceMul, Int.reduceSub, Int.reduceEq, Nat.reduceAdd, Nat.reducePow, Nat.reduceLT, Nat.reduceMul, Nat.reduceSub, Nat.reduceLeDiff, Nat.reduceEqDiff, and_self, or_self, hb, hl, hx, hv, hio, hfr, h18]
            exact ⟨a + 1, _, _, by omega, rfl⟩
        · simp only [sizeLine, List.length_cons, List.length_nil, Nat.zero_add, okSL, okS, okE, okEL, okC, okO, runL, run, eval, evalL, evalC, putR, binD, addD, cmpD, b1D, b2D, isiD, subD, lenD, itemsD, ltD, lockR, unlockR, putS, pinned, isIm, optI, setP1, setP2, setP3, at0, at1, at2, at3, at4, decide_eq_true_eq, decide_eq_false_iff_not, okT, bindT, eqInt, eqBool, eqStr, eqNone, List.getElem?_cons_zero, List.getElem?_cons_succ, List.set_cons_zero, List.set_cons_succ, Option.some.injEq, exists_eq_left', exists_eq_left, exists_eq_right, exists_eq_right', and_true, true_and, and_false, false_and, or_true, true_or, or_false, false_or, if_true, if_false, List.all_cons, List.all_nil, List.map_cons, List.map_nil, Bool.and_true, Bool.true_and, Bool.and_false, Bool.false_and, reduceCtorEq, ne_eq, not_true, not_false_eq_true, forall_const, PyData.bool.injEq, PyData.int.injEq, PyData.str.injEq, PyData.list.injEq, PyData.tuple.injEq, Bool.false_eq_true, Bool.not_true, Bool.not_false, decide_true, decide_false, forall_eq', forall_eq, false_implies, true_implies, Option.map_some, Option.map_none, imp_self, implies_true, Bool.true_eq_false, ↓reduceIte, Int.reduceLT, Int.reduceLE, Int.reducePow, Int.reduceNeg, Int.reduceAdd, Int.reduceMul, Int.reduceSub, Int.reduceEq, Nat.reduceAdd, Nat.reducePow, Nat.reduceLT, Nat.reduceMul, Nat.reduceSub, Nat.reduceLeDiff, Nat.reduceEqDiff, and_self, or_self, hb, hl]
          exact ⟨_, _, _, ha, rfl⟩
      · simp only [sizeLine, List.length_cons, List.length_nil, Nat.zero_add, okSL, okS, okE, okEL, okC, okO, runL, run, eval, evalL, evalC, putR, binD, addD, cmpD, b1D, b2D, isiD, subD, lenD, itemsD, ltD, lockR, unlockR, putS, pinned, isIm, optI, setP1, setP2, setP3, at0, at1, at2, at3, at4, decide_eq_true_eq, decide_eq_false_iff_not, okT, bindT, eqInt, eqBool, eqStr, eqNone, List.getElem?_cons_zero, List.getElem?_cons_succ, List.set_cons_zero, List.set_cons_succ, Option.some.injEq, exists_eq_left', exists_eq_left, exists_eq_right, exists_eq_right', and_true, true_and, and_false, false_and, or_true, true_or, or_false, false_or, if_true, if_false, List.all_cons, List.all_nil, List.map_cons, List.map_nil, Bool.and_true, Bool.true_and, Bool.and_false, Bool.false_and, reduceCtorEq, ne_eq, not_true, not_false_eq_true, forall_const, PyData.bool.injEq, PyData.int.injEq, PyData.str.injEq, PyData.list.injEq, PyData.tuple.injEq, Bool.false_eq_true, Bool.not_true, Bool.not_false, decide_true, decide_false, forall_eq', forall_eq, false_implies, true_implies, Option.map_some, Option.map_none, imp_self, implies_true, Bool.true_eq_false, ↓reduceIte, Int.reduceLT, Int.reduceLE, Int.reducePow, Int.reduceNeg, Int.reduceAdd, Int.reduceMul, Int.reduceSub, Int.reduceEq, Nat.reduceAdd, Nat.reducePow, Nat.reduceLT, Nat.reduceMul, Nat.reduceSub, Nat.reduceLeDiff, Nat.reduceEqDiff, and_self, or_self, hb]
        exact ⟨_, _, _, ha, rfl⟩
    · rintro s ⟨a, b, k, ha, rfl⟩
      refine step (by simp only [sizeLine, List.length_cons, List.length_nil, Nat.zero_add, okSL, okS, okE, okEL, okC, okO, runL, run, eval, evalL, evalC, putR, binD, addD, cmpD, b1D, b2D, isiD, subD, lenD, itemsD, ltD, lockR, unlockR, putS, pinned, isIm, optI, setP1, setP2, setP3, at0, at1, at2, at3, at4, decide_eq_true_eq, decide_eq_false_iff_not, okT, bindT, eqInt, eqBool, eqStr, eqNone, List.getElem?_cons_zero, List.getElem?_cons_succ, List.set_cons_zero, List.set_cons_succ, Option.some.injEq, exists_eq_left', exists_eq_left, exists_eq_right, exists_eq_right', and_true, true_and, and_false, false_and, or_true, true_or, or_false, false_or, if_true, if_false, List.all_cons, List.all_nil, List.map_cons, List.map_nil, Bool.and_true, Bool.true_and, Bool.and_false, Bool.false_and, reduceCtorEq, ne_eq, not_true, not_false_eq_true, forall_const, PyData.bool.injEq, PyData.int.injEq, PyData.str.injEq, PyData.list.injEq, PyData.tuple.injEq, Bool.false_eq_true, Bool.not_true, Bool.not_false, decide_true, decide_false, forall_eq', forall_eq, false_implies, true_implies, Option.map_some, Option.map_none, imp_self, implies_true, Bool.true_eq_false, ↓reduceIte, Int.reduceLT, Int.reduceLE, Int.reducePow, Int.reduceNeg, Int.reduceAdd, Int.reduceMul, Int.reduceSub, Int.reduceEq, Nat.reduceAdd, Nat.reducePow, Nat.reduceLT, Nat.reduceMul, Nat.reduceSub, Nat.reduceLeDiff, Nat.reduceEqDiff, and_self, or_self]; rfl) ?_
      by_cases hb : b ≤ 0
      · simp only [sizeLine, List.length_cons, List.length_nil, Nat.zero_add, okSL, okS, okE, okEL, okC, okO, runL, run, eval, evalL, evalC, putR, binD, addD, cmpD, b1D, b2D, isiD, subD, lenD, itemsD, ltD, lockR, unlockR, putS, pinned, isIm, optI, setP1, setP2, setP3, at0, at1, at2, at3, at4, decide_eq_true_eq, decide_eq_false_iff_not, okT, bindT, eqInt, eqBool, eqStr, eqNone, List.getElem?_cons_zero, List.getElem?_cons_succ, List.set_cons_zero, List.set_cons_succ, Option.some.injEq, exists_eq_left', exists_eq_left, exists_eq_right, exists_eq_right', and_true, true_and, and_false, false_and, or_true, true_or, or_false, false_or, if_true, if_false, List.all_cons, List.all_nil, List.map_cons, List.map_nil, Bool.and_true, Bool.true_and, Bool.and_false, Bool.false_and, reduceCtorEq, ne_eq, not_true, not_false_eq_true, forall_const, PyData.bool.injEq, PyData.int.injEq, PyData.str.injEq, PyData.list.injEq, PyData.tuple.injEq, Bool.false_eq_true, Bool.not_true, Bool.not_false, decide_true, decide_false, forall_eq', forall_eq, false_implies, true_implies, Option.map_some, Option.map_none, imp_self, implies_true, Bool.true_eq_false, ↓reduceIte, Int.reduceLT, Int.reduceLE, Int.reducePow, Int.reduceNeg, Int.reduceAdd, Int.reduceMul, Int.reduceSub, Int.reduceEq, Nat.reduceAdd, Nat.reducePow, Nat.reduceLT, Nat.reduceMul, Nat.reduceSub, Nat.reduceLeDiff, Nat.reduceEqDiff, and_self, or_self, hb, h0]
        exact ⟨_, _, rfl, _, rfl, Int.emod_nonneg _ (by omega), Int.emod_lt_of_pos _ h0, cells, a, b, _, d, ha, rfl⟩
      · simp only [sizeLine, List.length_cons, List.length_nil, Nat.zero_add, okSL, okS, okE, okEL, okC, okO, runL, run, eval, evalL, evalC, putR, binD, addD, cmpD, b1D, b2D, isiD, subD, lenD, itemsD, ltD, lockR, unlockR, putS, pinned, isIm, optI, setP1, setP2, setP3, at0, at1, at2, at3, at4, decide_eq_true_eq, decide_eq_false_iff_not, okT, bindT, eqInt, eqBool, eqStr, eqNone, List.getElem?_cons_zero, List.getElem?_cons_succ, List.set_cons_zero, List.set_cons_succ, Option.some.injEq, exists_eq_left', exists_eq_left, exists_eq_right, exists_eq_right', and_true, true_and, and_false, false_and, or_true, true_or, or_false, false_or, if_true, if_false, List.all_cons, List.all_nil, List.map_cons, List.map_nil, Bool.and_true, Bool.true_and, Bool.and_false, Bool.false_and, reduceCtorEq, ne_eq, not_true, not_false_eq_true, forall_const, PyData.bool.injEq, PyData.int.injEq, PyData.str.injEq, PyData.list.injEq, PyData.tuple.injEq, Bool.false_eq_true, Bool.not_true, Bool.not_false, decide_true, decide_false, forall_eq', forall_eq, false_implies, true_implies, Option.map_some, Option.map_none, imp_self, implies_true, Bool.true_eq_false, ↓reduceIte, Int.reduceLT, Int.reduceLE, Int.reducePow, Int.reduceNeg, Int.reduceAdd, Int.reduceMul, Int.reduceSub, Int.reduceEq, Nat.reduceAdd, Nat.reducePow, Nat.reduceLT, Nat.reduceMul, Nat.reduceSub, Nat.reduceLeDiff, Nat.reduceEqDiff, and_self, or_self, hb, h0, h1]
        exact ⟨_, _, rfl, _, rfl, Int.emod_nonneg _ (by omega), Int.emod_lt_of_pos _ h0, cells, a, _, _, d, ha, rfl⟩
  obtain ⟨r, q, e, v, rfl, h2, h3, h4⟩ := key
  exact ⟨v, q, e, h2, h3, h4⟩
end Ev

set_option autoImplicit false
/-! Ev16: the laws' own small defs: pool, pick, word. -/
namespace Ev
open PySem
open L2 (atI ixN)
section
variable {F : Nat → Fn} {C : Nat → PyData}
theorem itEx {k : Kd} {ds : List PyData} : itD .ex [⟨k, .list ds⟩] = some ds := rfl
theorem itExT {k : Kd} {ds : List PyData} : itD .ex [⟨k, .tuple ds⟩] = some ds := rfl
def ir__law_pool : List Sx := [.set 1 false (.cs (PyData.int 7)),
  .for (.n 2) .ex [(.slc (.nm 0) [] [(.cs (PyData.int 63))])] [.set 1 false (.bin .mod (.b1 .int (.bin .add (.bin .mul (.nm 1) (.cs (PyData.int 31))) (.nm 2))) (.cs (PyData.int 1000003)))],
  .retf (.lst [(.b1 .list (.nm 0)), (.cs (PyData.int 0)), (.cs (PyData.int 0)), (.cs (PyData.int 0)), (.nm 1)])]
theorem pool_sem (ns : List Int) : ∃ p, semOf F C 3 false true ir__law_pool [.list (ns.map .int)] = some (p, .none) ∧ PoolOk p := by
  have key : ∃ r q, semOf F C 3 false true ir__law_pool [.list (ns.map .int)] = some (r, q) ∧ q = .none ∧ PoolOk r := by
    refine sem_ok ?_
    unfold ir__law_pool
    show okSL F C _ [.im (.list (ns.map .int)), .no, .no] _
    refine step (by simp only [sizeLine, List.length_cons, List.length_nil, Nat.zero_add, okSL, okS, okE, okEL, okC, okO, runL, run, eval, evalL, evalC, putR, binD, addD, cmpD, b1D, b2D, isiD, subD, lenD, itemsD, ltD, lockR, unlockR, putS, pinned, isIm, optI, setP1, setP2, setP3, at0, at1, at2, at3, at4, decide_eq_true_eq, decide_eq_false_iff_not, okT, bindT, eqInt, eqBool, eqStr, eqNone, List.getElem?_cons_zero, List.getElem?_cons_succ, List.set_cons_zero, List.set_cons_succ, Option.some.injEq, exists_eq_left', exists_eq_left, exists_eq_right, exists_eq_right', and_true, true_and, and_false, false_and, or_true, true_or, or_false, false_or, if_true, if_false, List.all_cons, List.all_nil, List.map_cons, List.map_nil, Bool.and_true, Bool.true_and, Bool.and_false, Bool.false_and, reduceCtorEq, ne_eq, not_true, not_false_eq_true, forall_const, PyData.bool.injEq, PyData.int.injEq, PyData.str.injEq, PyData.list.injEq, PyData.tuple.injEq, Bool.false_eq_true, Bool.not_true, Bool.not_false, decide_true, decide_false, forall_eq', forall_eq, false_implies, true_implies, Option.map_some, Option.map_none, imp_self, implies_true, Bool.true_eq_false, ↓reduceIte, Int.reduceLT, Int.reduceLE, Int.reducePow, Int.reduceNeg, Int.reduceAdd, Int.reduceMul, Int.reduceSub, Int.reduceEq, Nat.reduceAdd, Nat.reducePow, Nat.reduceLT, Nat.reduceMul, Nat.reduceSub, Nat.reduceLeDiff, Nat.reduceEqDiff, and_self, or_self]; rfl) ?_
    refine stepN (Q0 := fun s => ∃ m k, s = [.im (.list (ns.map .int)), .im (.int m), k]) ?_ ?_
    · refine l_forN (ds := cutD (ns.map .int) none (some 63)) rfl rfl (fun i s => ∃ m k, s = [.im (.list (ns.map .int)), .im (.int m), k] ∧ (k = .no ∨ ∃ d, k = .im d)) ⟨_, _, rfl, .inl rfl⟩ ?_ ?_
      · rintro i t hi ⟨m, k, rfl, hk⟩
        have hm : (cutD (ns.map .int) none (some 63))[i] ∈ ns.map PyData.int := List.mem_of_mem_drop (List.mem_of_mem_take (List.getElem_mem hi))
        obtain ⟨x, _, hx⟩ := List.mem_map.mp hm
        rw [← hx]
        rcases hk with rfl | ⟨d, rfl⟩
        all_goals
          simp only [sizeLine, List.length_cons, List.length_nil, Nat.zero_add, okSL, okS, okE, okEL, okC, okO, runL, run, eval, evalL, evalC, putR, binD, addD, cmpD, b1D, b2D, isiD, subD, lenD, itemsD, ltD, lockR, unlockR, putS, pinned, isIm, optI, setP1, setP2, setP3, at0, at1, at2, at3, at4, decide_eq_true_eq, decide_eq_false_iff_not, okT, bindT, eqInt, eqBool, eqStr, eqNone, List.getElem?_cons_zero, List.getElem?_cons_succ, List.set_cons_zero, List.set_cons_succ, Option.some.injEq, exists_eq_left', exists_eq_left, exists_eq_right, exists_eq_right', and_true, true_and, and_false, false_and, or_true, true_or, or_false, false_or, if_true, if_false, List.all_cons, List.all_nil, List.map_cons, List.map_nil, Bool.and_true, Bool.true_and, Bool.and_false, Bool.false_and, reduceCtorEq, ne_eq, not_true, not_false_eq_true, forall_const, PyData.bool.injEq, PyData.int.injEq, PyData.str.injEq, PyData.list.injEq, PyData.tuple.injEq, Bool.false_eq_true, Bool.not_true, Bool.not_false, decide_true, decide_false, forall_eq', forall_eq, false_implies, true_implies, Option.map_some, Option.map_none, imp_self, implies_true, Bool.true_eq_false, ↓reduceIte, Int.reduceLT, Int.reduceLE, Int.reducePow, Int.reduceNeg, Int.reduceAdd, Int.reduceMul, Int.reduceSub, Int.reduceEq, Nat.reduceAdd, Nat.reducePow, Nat.reduceLT, Nat.reduceMul, Nat.reduceSub, Nat.reduceLeDiff, Nat.reduceEqDiff, and_self, or_self]
          exact ⟨_, _, rfl, .inr ⟨_, rfl⟩⟩
      · rintro t ⟨m, k, rfl, hk⟩
        exact ⟨rfl, _, _, rfl⟩
    · rintro s ⟨m, k, rfl⟩
      refine stepR (f := .rf _) (by simp only [sizeLine, List.length_cons, List.length_nil, Nat.zero_add, okSL, okS, okE, okEL, okC, okO, runL, run, eval, evalL, evalC, putR, binD, addD, cmpD, b1D, b2D, isiD, subD, lenD, itemsD, ltD, lockR, unlockR, putS, pinned, isIm, optI, setP1, setP2, setP3, at0, at1, at2, at3, at4, decide_eq_true_eq, decide_eq_false_iff_not, okT, bindT, eqInt, eqBool, eqStr, eqNone, List.getElem?_cons_zero, List.getElem?_cons_succ, List.set_cons_zero, List.set_cons_succ, Option.some.injEq, exists_eq_left', exists_eq_left, exists_eq_right, exists_eq_right', and_true, true_and, and_false, false_and, or_true, true_or, or_false, false_or, if_true, if_false, List.all_cons, List.all_nil, List.map_cons, List.map_nil, Bool.and_true, Bool.true_and, Bool.and_false, Bool.false_and, reduceCtorEq, ne_eq, not_true, not_false_eq_true, forall_const, PyData.bool.injEq, PyData.int.injEq, PyData.str.injEq, PyData.list.injEq, PyData.tuple.injEq, Bool.false_eq_true, Bool.not_true, Bool.not_false, decide_true, decide_false, forall_eq', forall_eq, false_implies, true_implies, Option.map_some, Option.map_none, imp_self, implies_true, Bool.true_eq_false, ↓reduceIte, Int.reduceLT, Int.reduceLE, Int.reducePow, Int.reduceNeg, Int.reduceAdd, Int.reduceMul, Int.reduceSub, Int.reduceEq, Nat.reduceAdd, Nat.reducePow, Nat.reduceLT, Nat.reduceMul, Nat.reduceSub, Nat.reduceLeDiff, Nat.reduceEqDiff, and_self, or_self]; rfl) (fun z => nomatch z) ⟨_, _, rfl, rfl, ns, 0, 0, 0, m, by omega, rfl⟩
  obtain ⟨r, q, e, rfl, h⟩ := key
  exact ⟨r, e, h⟩
/-- a def that draws -/
structure Drw (F : Nat → Fn) (f : Nat) (P : List PyData → Prop) (R : List PyData → PyData → Prop) : Prop where
  io : (F f).io = true
  fr : (F f).fr = false
  sem : ∀ p as, PoolOk p → P as → ∃ v p', (F f).sem (p :: as) = some (v, p') ∧ R as v ∧ PoolOk p'
def dP (as : List PyData) : Prop := ∃ m : Int, as = [.int m] ∧ 0 < m ∧ m < 1073741824
def dR (as : List PyData) (v : PyData) : Prop := ∃ m x : Int, as = [.int m] ∧ v = .int x ∧ 0 ≤ x ∧ x < m
theorem Drw.dr {dr : Nat} (h : Drw F dr dP dR) {p : PyData} (hp : PoolOk p) {m : Int} (h0 : 0 < m) (h1 : m < 1073741824) : ∃ x p', (F dr).sem [p, .int m] = some (.int x, p') ∧ 0 ≤ x ∧ x < m ∧ PoolOk p' := by
  obtain ⟨v, p', e, ⟨m', x, e1, rfl, h2, h3⟩, h4⟩ := h.sem p [.int m] hp ⟨m, rfl, h0, h1⟩
  cases e1
  exact ⟨x, p', e, h2, h3, h4⟩
theorem atOk {xs : List PyData} {v : Int} (h0 : 0 ≤ v) (h1 : v < xs.length) : ∃ x ∈ xs, atI xs v = some x := by
  obtain ⟨n, rfl⟩ := Int.eq_ofNat_of_zero_le h0
  have hn : n < xs.length := by omega
  exact ⟨xs[n], List.getElem_mem hn, L2.atI_nat (List.getElem?_eq_getElem hn)⟩
def ir__law_pick (f__law_draw : Nat) : List Sx := [.ret (.sub (.nm 1) (.calli f__law_draw 0 [(.b1 .len (.nm 1))]))]
theorem pick_sem {dr : Nat} (hd : Drw F dr dP dR) {p : PyData} (hp : PoolOk p) {xs : List PyData} (h0 : 0 < xs.length) (h1 : xs.length < 1073741824) : ∃ x p', semOf F C 2 true false (ir__law_pick dr) [p, .list xs] = some (x, p') ∧ x ∈ xs ∧ PoolOk p' := by
  obtain ⟨v, p', e, h2, h3, h4⟩ := hd.dr hp (m := (xs.length : Int)) (by omega) (by omega)
  obtain ⟨x, hx, ex⟩ := atOk h2 h3
  refine sem_ok ?_
  unfold ir__law_pick
  show okSL F C _ [.ow p, .im (.list xs)] _
  refine stepR (f := .rt x) (s1 := [.ow p', .im (.list xs)]) (by simp only [sizeLine, List.length_cons, List.length_nil, Nat.zero_add, okSL, okS, okE, okEL, okC, okO, runL, run, eval, evalL, evalC, putR, binD, addD, cmpD, b1D, b2D, isiD, subD, lenD, itemsD, ltD, lockR, unlockR, putS, pinned, isIm, optI, setP1, setP2, setP3, at0, at1, at2, at3, at4, decide_eq_true_eq, decide_eq_false_iff_not, okT, bindT, eqInt, eqBool, eqStr, eqNone, List.getElem?_cons_zero, List.getElem?_cons_succ, List.set_cons_zero, List.set_cons_succ, Option.some.injEq, exists_eq_left', exists_eq_left, exists_eq_right, exists_eq_right', and_true, true_and, and_false, false_and, or_true, true_or, or_false, false_or, if_true, if_false, List.all_cons, List.all_nil, List.map_cons, List.map_nil, Bool.and_true, Bool.true_and, Bool.and_false, Bool.false_and, reduceCtorEq, ne_eq, not_true, not_false_eq_true, forall_const, PyData.bool.injEq, PyData.int.injEq, PyData.str.injEq, PyData.list.injEq, PyData.tuple.injEq, Bool.false_eq_true, Bool.not_true, Bool.not_false, decide_true, decide_false, forall_eq', forall_eq, false_implies, true_implies, Option.map_some, Option.map_none, imp_self, implies_true, Bool.true_eq_false, ↓reduceIte, Int.reduceLT, Int.reduceLE, Int.reducePow, Int.reduceNeg, Int.reduceAdd, Int.reduceMul, Int.reduceSub, Int.reduceEq, Nat.reduceAdd, Nat.reducePow, Nat.reduceLT, Nat.reduceMul, Nat.reduceSub, Nat.reduceLeDiff, Nat.reduceEqDiff, and_self, or_self, e, hd.io, hd.fr, ex]) (fun z => nomatch z) ⟨x, p', rfl, hx, h4⟩
theorem pick_semT {dr : Nat} (hd : Drw F dr dP dR) {p : PyData} (hp : PoolOk p) {xs : List PyData} (h0 : 0 < xs.length) (h1 : xs.length < 1073741824) : ∃ x p', semOf F C 2 true false (ir__law_pick dr) [p, .tuple xs] = some (x, p') ∧ x ∈ xs ∧ PoolOk p' := by
  obtain ⟨v, p', e, h2, h3, h4⟩ := hd.dr hp (m := (xs.length : Int)) (by omega) (by omega)
  obtain ⟨x, hx, ex⟩ := atOk h2 h3
  refine sem_ok ?_
  unfold ir__law_pick
  show okSL F C _ [.ow p, .im (.tuple xs)] _
  refine stepR (f := .rt x) (s1 := [.ow p', .im (.tuple xs)]) (by simp only [sizeLine, List.length_cons, List.length_nil, Nat.zero_add, okSL, okS, okE, okEL, okC, okO, runL, run, eval, evalL, evalC, putR, binD, addD, cmpD, b1D, b2D, isiD, subD, lenD, itemsD, ltD, lockR, unlockR, putS, pinned, isIm, optI, setP1, setP2, setP3, at0, at1, at2, at3, at4, decide_eq_true_eq, decide_eq_false_iff_not, okT, bindT, eqInt, eqBool, eqStr, eqNone, List.getElem?_cons_zero, List.getElem?_cons_succ, List.set_cons_zero, List.set_cons_succ, Option.some.injEq, exists_eq_left', exists_eq_left, exists_eq_right, exists_eq_right', and_true, true_and, and_false, false_and, or_true, true_or, or_false, false_or, if_true, if_false, List.all_cons, List.all_nil, List.map_cons, List.map_nil, Bool.and_true, Bool.true_and, Bool.and_false, Bool.false_and, reduceCtorEq, ne_eq, not_true, not_false_eq_true, forall_const, PyData.bool.injEq, PyData.int.injEq, PyData.str.injEq, PyData.list.injEq, PyData.tuple.injEq, Bool.false_eq_true, Bool.not_true, Bool.not_false, decide_true, decide_false, forall_eq', forall_eq, false_implies, true_implies, Option.map_some, Option.map_none, imp_self, implies_true, Bool.true_eq_false, ↓reduceIte, Int.reduceLT, Int.reduceLE, Int.reducePow, Int.reduceNeg, Int.reduceAdd, Int.reduceMul, Int.reduceSub, Int.reduceEq, Nat.reduceAdd, Nat.reducePow, Nat.reduceLT, Nat.reduceMul, Nat.reduceSub, Nat.reduceLeDiff, Nat.reduceEqDiff, and_self, or_self, e, hd.io, hd.fr, ex]) (fun z => nomatch z) ⟨x, p', rfl, hx, h4⟩
def pP (as : List PyData) : Prop := ∃ xs : List PyData, (as = [.list xs] ∨ as = [.tuple xs]) ∧ 0 < xs.length ∧ xs.length < 1073741824
def pR (as : List PyData) (v : PyData) : Prop := ∃ xs : List PyData, (as = [.list xs] ∨ as = [.tuple xs]) ∧ v ∈ xs
theorem Drw.pk {f : Nat} (h : Drw F f pP pR) {p : PyData} (hp : PoolOk p) {xs : List PyData} (h0 : 0 < xs.length) (h1 : xs.length < 1073741824) : ∃ x p', (F f).sem [p, .list xs] = some (x, p') ∧ x ∈ xs ∧ PoolOk p' := by
  obtain ⟨v, p', e, ⟨xs', e1, h2⟩, h4⟩ := h.sem p [.list xs] hp ⟨xs, .inl rfl, h0, h1⟩
  rcases e1 with e1 | e1 <;> cases e1
  exact ⟨v, p', e, h2, h4⟩
/-- a text of the letters a, b, c -/
def Abc (w : List Nat) : Prop := ∀ x ∈ w, x = 97 ∨ x = 98 ∨ x = 99
theorem joinL_one : ∀ w : List Nat, TL.joinL [] (w.map fun c => [c]) = w
  | [] => rfl
  | [_] => rfl
  | a :: b :: r => by
    have := joinL_one (b :: r)
    simp only [List.map_cons] at this ⊢
    show [a] ++ ([] ++ TL.joinL [] ([b] :: r.map fun c => [c])) = _
    rw [this]
    rfl
theorem join_chars (w : List Nat) : Txt.join (S []) (w.map fun c => S [c]) = S w := by
  have e := SX.join_S [] (w.map fun c => [c])
  rw [List.map_map] at e
  rw [joinL_one] at e
  exact e
theorem texts_map {l : List Str} : textsD (l.map .str) = some l := by
  induction l with
  | nil => rfl
  | cons a l ih => simp only [List.map_cons, textsD, ih, Option.map_some]
theorem join_ok {w : List Nat} (h : w.length ≤ 16777216) : mtD .join (.str (S [])) (.list (w.map fun c => .str (S [c]))) = some ⟨.im, .str (S w)⟩ := by
  have e : w.map (fun c => PyData.str (S [c])) = (w.map fun c => S [c]).map .str := by rw [List.map_map]; rfl
  rw [e]
  unfold mtD
  simp only [texts_map, Option.bind_some]
  have e2 : ((w.map fun c => S [c]).map (·.length)).sum = w.length := by
    clear e h
    induction w with
    | nil => rfl
    | cons a w ih => simp only [List.map_cons, List.sum_cons, ih, List.length_cons, S_len, List.length_nil]; omega
  rw [e2, S_len, join_chars]
  rw [if_pos (by simp only [List.length_nil, Nat.mul_zero]; omega)]
def ir__law_word (f__law_draw : Nat) (f__law_pick : Nat) : List Sx := [.ret (.mt .join (.cs (PyData.str (S []))) (.comp (.calli f__law_pick 0 [(.lst [(.cs (PyData.str (S [97]))), (.cs (PyData.str (S [98]))), (.cs (PyData.str (S [99]))), (.cs (PyData.str (S [97])))])]) (.n 2) .r1 [(.calli f__law_draw 0 [(.bin .add (.nm 1) (.cs (PyData.int 1)))])] [] [("k", 2)]))]
theorem word_sem {dr pk : Nat} (hd : Drw F dr dP dR) (hk : Drw F pk pP pR) {p : PyData} (hp : PoolOk p) {m : Int} (h0 : 0 ≤ m) (h1 : m < 1000000) : ∃ d p', semOf F C 3 true false (ir__law_word dr pk) [p, .int m] = some (d, p') ∧ (∃ w, d = .str (S w) ∧ Abc w ∧ (w.length : Int) ≤ m) ∧ PoolOk p' := by
  obtain ⟨v, p1, e1, h2, h3, hp1⟩ := hd.dr hp (m := m + 1) (by omega) (by omega)
  refine sem_ok ?_
  unfold ir__law_word
  show okSL F C _ [.ow p, .im (.int m), .no] _
  rw [w_seq, w_ret, w_mt, w_cs]
  show okE F C _ [.ow p, .im (.int m), .no] _
  refine l_comp (rs := [⟨.im, .int v⟩]) (s1 := [.ow p1, .im (.int m), .no]) (ds := rng 0 v) (by simp only [sizeLine, List.length_cons, List.length_nil, Nat.zero_add, okSL, okS, okE, okEL, okC, okO, runL, run, eval, evalL, evalC, putR, binD, addD, cmpD, b1D, b2D, isiD, subD, lenD, itemsD, ltD, lockR, unlockR, putS, pinned, isIm, optI, setP1, setP2, setP3, at0, at1, at2, at3, at4, decide_eq_true_eq, decide_eq_false_iff_not, okT, bindT, eqInt, eqBool, eqStr, eqNone, List.getElem?_cons_zero, List.getElem?_cons_succ, List.set_cons_zero, List.set_cons_succ, Option.some.injEq, exists_eq_left', exists_eq_left, exists_eq_right, exists_eq_right', and_true, true_and, and_false, false_and, or_true, true_or, or_false, false_or, if_true, if_false, List.all_cons, List.all_nil, List.map_cons, List.map_nil, Bool.and_true, Bool.true_and, Bool.and_false, Bool.false_and, reduceCtorEq, ne_eq, not_true, not_false_eq_true, forall_const, PyData.bool.injEq, PyData.int.injEq, PyData.str.injEq, PyData.list.injEq, PyData.tuple.injEq, Bool.false_eq_true, Bool.not_true, Bool.not_false, decide_true, decide_false, forall_eq', forall_eq, false_implies, true_implies, Option.map_some, Option.map_none, imp_self, implies_true, Bool.true_eq_false, ↓reduceIte, Int.reduceLT, Int.reduceLE, Int.reducePow, Int.reduceNeg, Int.reduceAdd, Int.reduceMul, Int.reduceSub, Int.reduceEq, Nat.reduceAdd, Nat.reducePow, Nat.reduceLT, Nat.reduceMul, Nat.reduceSub, Nat.reduceLeDiff, Nat.reduceEqDiff, and_self, or_self, e1, hd.io, hd.fr]) (lenItd h2 (by omega)) rfl
    (fun i acc t => ∃ w p, t = [.ow p, .im (.int m), .no] ∧ PoolOk p ∧ acc = w.map (fun c => .str (S [c])) ∧ Abc w ∧ w.length = i) ⟨[], p1, rfl, hp1, rfl, (fun _ h => nomatch h), rfl⟩ ?_ ?_
  · rintro i acc t hi ⟨w, p2, rfl, hp2, rfl, hw, rfl⟩
    rw [rng_get hi]
    rw [rng_len] at hi
    obtain ⟨x, p3, e3, hx, hp3⟩ := hk.pk hp2 (xs := [.str (S [97]), .str (S [98]), .str (S [99]), .str (S [97])]) (by decide) (by decide)
    have hc : ∃ c, x = .str (S [c]) ∧ (c = 97 ∨ c = 98 ∨ c = 99) := by
      simp only [List.mem_cons, List.mem_nil_iff, or_false] at hx
      rcases hx with rfl | rfl | rfl | rfl
      · exact ⟨_, rfl, .inl rfl⟩
      · exact ⟨_, rfl, .inr (.inl rfl)⟩
      · exact ⟨_, rfl, .inr (.inr rfl)⟩
      · exact ⟨_, rfl, .inl rfl⟩
    obtain ⟨c, rfl, hc⟩ := hc
    have hsz : w.length < 16777216 := by omega
    refine ⟨fun _ => ?_, fun z => nomatch z⟩
    simp only [sizeLine, List.length_cons, List.length_nil, Nat.zero_add, okSL, okS, okE, okEL, okC, okO, runL, run, eval, evalL, evalC, putR, binD, addD, cmpD, b1D, b2D, isiD, subD, lenD, itemsD, ltD, lockR, unlockR, putS, pinned, isIm, optI, setP1, setP2, setP3, at0, at1, at2, at3, at4, decide_eq_true_eq, decide_eq_false_iff_not, okT, bindT, eqInt, eqBool, eqStr, eqNone, List.getElem?_cons_zero, List.getElem?_cons_succ, List.set_cons_zero, List.set_cons_succ, Option.some.injEq, exists_eq_left', exists_eq_left, exists_eq_right, exists_eq_right', and_true, true_and, and_false, false_and, or_true, true_or, or_false, false_or, if_true, if_false, List.all_cons, List.all_nil, List.map_cons, List.map_nil, Bool.and_true, Bool.true_and, Bool.and_false, Bool.false_and, reduceCtorEq, ne_eq, not_true, not_false_eq_true, forall_const, PyData.bool.injEq, PyData.int.injEq, PyData.str.injEq, PyData.list.injEq, PyData.tuple.injEq, Bool.false_eq_true, Bool.not_true, Bool.not_false, decide_true, decide_false, forall_eq', forall_eq, false_implies, true_implies, Option.map_some, Option.map_none, imp_self, implies_true, Bool.true_eq_false, ↓reduceIte, Int.reduceLT, Int.reduceLE, Int.reducePow, Int.reduceNeg, Int.reduceAdd, Int.reduceMul, Int.reduceSub, Int.reduceEq, Nat.reduceAdd, Nat.reducePow, Nat.reduceLT, Nat.reduceMul, Nat.reduceSub, Nat.reduceLeDiff, Nat.reduceEqDiff, and_self, or_self, e3, hk.io, hk.fr]
    refine ⟨by rw [List.length_map]; exact hsz, rfl, w ++ [c], p3, rfl, hp3, by rw [List.map_append]; rfl, fun y hy => ?_, by rw [List.length_append]; rfl⟩
    rcases List.mem_append.mp hy with hy | hy
    · exact hw y hy
    · rw [List.mem_singleton.mp hy]; exact hc
  · rintro acc t ⟨w, p2, rfl, hp2, rfl, hw, hl⟩
    rw [rng_len] at hl
    refine ⟨⟨.im, .str (S w)⟩, join_ok (by omega), rfl, (fun z => nomatch z), fun _ => ⟨_, p2, rfl, ⟨w, rfl, hw, by omega⟩, hp2⟩⟩
end
end Ev

set_option autoImplicit false
/-! Ev17: the laws' comparison says True of a thing and itself. -/
namespace Ev
open PySem
open L2 (atI ixN)
section
variable {F : Nat → Fn} {C : Nat → PyData} {s s1 : Stt}
theorem iteT {k : Kd} {c : Ex} {a b : List Sx} {Q : Fl → Stt → Prop} (hc : eval F C c s = some (⟨k, .bool true⟩, s1)) (h : okSL F C a s1 Q) : okS F C (.ite c a b) s Q := by
  rw [w_ite]
  unfold okE okO
  rw [hc]
  exact ⟨true, rfl, fun _ => h, fun z => nomatch z⟩
theorem iteF {k : Kd} {c : Ex} {a b : List Sx} {Q : Fl → Stt → Prop} (hc : eval F C c s = some (⟨k, .bool false⟩, s1)) (h : okSL F C b s1 Q) : okS F C (.ite c a b) s Q := by
  rw [w_ite]
  unfold okE okO
  rw [hc]
  exact ⟨false, rfl, (fun z => nomatch z), fun _ => h⟩
/-- the def has returned d -/
theorem retQ {d : PyData} {is : List Sx} : ∀ f t, f = Fl.rt d → (f = .nx → okSL F C is t fun f s' => f = .rt d) ∧ (f ≠ .nx → f = .rt d) := fun f t h => ⟨fun z => (by rw [h] at z; cases z), fun _ => h⟩
theorem at_i {α : Type} {xs : List α} {i : Nat} (h : i < xs.length) : atI xs (0 + (i : Int)) = some xs[i] := by
  rw [Int.zero_add]
  exact L2.atI_nat (List.getElem?_eq_getElem h)
/-- what the comparison may be asked of: no dict, and short -/
def kids : PyData → List PyData
  | .list xs => xs
  | .tuple xs => xs
  | _ => []
def ir__law_same (f__law_same : Nat) : List Sx := [.ite (.or (.isi (.nm 1) .tuple) (.isi (.nm 1) .list)) [.ite (.or (.cmp .ne (.isi (.nm 1) .tuple) (.isi (.nm 0) .tuple)) (.or (.cmp .ne (.isi (.nm 1) .list) (.isi (.nm 0) .list)) (.cmp .ne (.b1 .len (.nm 0)) (.b1 .len (.nm 1))))) [.ret (.cs (PyData.bool false))] [],
  .ret (.cmp .eq (.b1 .len (.comp (.nm 2) (.n 2) .r1 [(.b1 .len (.nm 1))] [(.not (.call f__law_same [(.sub (.nm 0) (.nm 2)), (.sub (.nm 1) (.nm 2))]))] [("k", 2)])) (.cs (PyData.int 0)))] [],
  .ite (.cmp .isn (.nm 1) (.cs PyData.none)) [.ret (.cmp .isn (.nm 0) (.cs PyData.none))] [],
  .ite (.or (.isi (.nm 1) .bool) (.isi (.nm 0) .bool)) [.ret (.and (.isi (.nm 1) .bool) (.and (.isi (.nm 0) .bool) (.cmp .eq (.nm 0) (.nm 1))))] [],
  .ite (.isi (.nm 1) .int) [.ret (.and (.isi (.nm 0) .int) (.cmp .eq (.nm 0) (.nm 1)))] [],
  .ret (.and (.isi (.nm 0) .str) (.and (.isi (.nm 1) .str) (.cmp .eq (.nm 0) (.nm 1))))]
theorem same_step {f : Nat} (hio : (F f).io = false) (hfr : (F f).fr = false) {d : PyData} (hk : ∀ x ∈ kids d, (F f).sem [x, x] = some (.bool true, .none)) (hl : (kids d).length ≤ 16777216) (hd : ∀ kvs, d ≠ .dict kvs) : semOf F C 3 false false (ir__law_same f) [d, d] = some (.bool true, .none) := by
  refine sem_rt ?_
  unfold ir__law_same
  show okSL F C _ [.im d, .im d, .no] _
  cases d with
  | dict kvs => exact absurd rfl (hd kvs)
  | none => simp only [sizeLine, List.length_cons, List.length_nil, Nat.zero_add, okSL, okS, okE, okEL, okC, okO, runL, run, eval, evalL, evalC, putR, binD, addD, cmpD, b1D, b2D, isiD, subD, lenD, itemsD, ltD, lockR, unlockR, putS, pinned, isIm, optI, setP1, setP2, setP3, at0, at1, at2, at3, at4, decide_eq_true_eq, decide_eq_false_iff_not, okT, bindT, eqInt, eqBool, eqStr, eqNone, List.getElem?_cons_zero, List.getElem?_cons_succ, List.set_cons_zero, List.set_cons_succ, Option.some.injEq, exists_eq_left', exists_eq_left, exists_eq_right, exists_eq_right', and_true, true_and, and_false, false_and, or_true, true_or, or_false, false_or, if_true, if_false, List.all_cons, List.all_nil, List.map_cons, List.map_nil, Bool.and_true, Bool.true_and, Bool.and_false, Bool.false_and, reduceCtorEq, ne_eq, not_true, not_false_eq_true, forall_const, PyData.bool.injEq, PyData.int.injEq, PyData.str.injEq, PyData.list.injEq, PyData.tuple.injEq, Bool.false_eq_true, Bool.not_true, Bool.not_false, decide_true, decide_false, eq_self, exists_eq, Bool.not_eq_true,  forall_eq', forall_eq, false_implies, true_implies, Option.map_some, Option.map_none, imp_self, implies_true, Bool.true_eq_false, ↓reduceIte, Int.reduceLT, Int.reduceLE, Int.reducePow, Int.reduceNeg, Int.reduceAdd, Int.reduceMul, Int.reduceSub, Int.reduceEq, Nat.reduceAdd, Nat.reducePow, Nat.reduceLT, Nat.reduceMul, Nat.reduceSub, Nat.reduceLeDiff, Nat.reduceEqDiff, and_self, or_self]
  | bool b => simp only [sizeLine, List.length_cons, List.length_nil, Nat.zero_add, okSL, okS, okE, okEL, okC, okO, runL, run, eval, evalL, evalC, putR, binD, addD, cmpD, b1D, b2D, isiD, subD, lenD, itemsD, ltD, lockR, unlockR, putS, pinned, isIm, optI, setP1, setP2, setP3, at0, at1, at2, at3, at4, decide_eq_true_eq, decide_eq_false_iff_not, okT, bindT, eqInt, eqBool, eqStr, eqNone, List.getElem?_cons_zero, List.getElem?_cons_succ, List.set_cons_zero, List.set_cons_succ, Option.some.injEq, exists_eq_left', exists_eq_left, exists_eq_right, exists_eq_right', and_true, true_and, and_false, false_and, or_true, true_or, or_false, false_or, if_true, if_false, List.all_cons, List.all_nil, List.map_cons, List.map_nil, Bool.and_true, Bool.true_and, Bool.and_false, Bool.false_and, reduceCtorEq, ne_eq, not_true, not_false_eq_true, forall_const, PyData.bool.injEq, PyData.int.injEq, PyData.str.injEq, PyData.list.injEq, PyData.tuple.injEq, Bool.false_eq_true, Bool.not_true, Bool.not_false, decide_true, decide_false, eq_self, exists_eq, Bool.not_eq_true,  forall_eq', forall_eq, false_implies, true_implies, Option.map_some, Option.map_none, imp_self, implies_true, Bool.true_eq_false, ↓reduceIte, Int.reduceLT, Int.reduceLE, Int.reducePow, Int.reduceNeg, Int.reduceAdd, Int.reduceMul, Int.reduceSub, Int.reduceEq, Nat.reduceAdd, Nat.reducePow, Nat.reduceLT, Nat.reduceMul, Nat.reduceSub, Nat.reduceLeDiff, Nat.reduceEqDiff, and_self, or_self]
  | int i => simp only [sizeLine, List.length_cons, List.length_nil, Nat.zero_add, okSL, okS, okE, okEL, okC, okO, runL, run, eval, evalL, evalC, putR, binD, addD, cmpD, b1D, b2D, isiD, subD, lenD, itemsD, ltD, lockR, unlockR, putS, pinned, isIm, optI, setP1, setP2, setP3, at0, at1, at2, at3, at4, decide_eq_true_eq, decide_eq_false_iff_not, okT, bindT, eqInt, eqBool, eqStr, eqNone, List.getElem?_cons_zero, List.getElem?_cons_succ, List.set_cons_zero, List.set_cons_succ, Option.some.injEq, exists_eq_left', exists_eq_left, exists_eq_right, exists_eq_right', and_true, true_and, and_false, false_and, or_true, true_or, or_false, false_or, if_true, if_false, List.all_cons, List.all_nil, List.map_cons, List.map_nil, Bool.and_true, Bool.true_and, Bool.and_false, Bool.false_and, reduceCtorEq, ne_eq, not_true, not_false_eq_true, forall_const, PyData.bool.injEq, PyData.int.injEq, PyData.str.injEq, PyData.list.injEq, PyData.tuple.injEq, Bool.false_eq_true, Bool.not_true, Bool.not_false, decide_true, decide_false, eq_self, exists_eq, Bool.not_eq_true,  forall_eq', forall_eq, false_implies, true_implies, Option.map_some, Option.map_none, imp_self, implies_true, Bool.true_eq_false, ↓reduceIte, Int.reduceLT, Int.reduceLE, Int.reducePow, Int.reduceNeg, Int.reduceAdd, Int.reduceMul, Int.reduceSub, Int.reduceEq, Nat.reduceAdd, Nat.reducePow, Nat.reduceLT, Nat.reduceMul, Nat.reduceSub, Nat.reduceLeDiff, Nat.reduceEqDiff, and_self, or_self]
  | str x => simp only [sizeLine, List.length_cons, List.length_nil, Nat.zero_add, okSL, okS, okE, okEL, okC, okO, runL, run, eval, evalL, evalC, putR, binD, addD, cmpD, b1D, b2D, isiD, subD, lenD, itemsD, ltD, lockR, unlockR, putS, pinned, isIm, optI, setP1, setP2, setP3, at0, at1, at2, at3, at4, decide_eq_true_eq, decide_eq_false_iff_not, okT, bindT, eqInt, eqBool, eqStr, eqNone, List.getElem?_cons_zero, List.getElem?_cons_succ, List.set_cons_zero, List.set_cons_succ, Option.some.injEq, exists_eq_left', exists_eq_left, exists_eq_right, exists_eq_right', and_true, true_and, and_false, false_and, or_true, true_or, or_false, false_or, if_true, if_false, List.all_cons, List.all_nil, List.map_cons, List.map_nil, Bool.and_true, Bool.true_and, Bool.and_false, Bool.false_and, reduceCtorEq, ne_eq, not_true, not_false_eq_true, forall_const, PyData.bool.injEq, PyData.int.injEq, PyData.str.injEq, PyData.list.injEq, PyData.tuple.injEq, Bool.false_eq_true, Bool.not_true, Bool.not_false, decide_true, decide_false, eq_self, exists_eq, Bool.not_eq_true,  forall_eq', forall_eq, false_implies, true_implies, Option.map_some, Option.map_none, imp_self, implies_true, Bool.true_eq_false, ↓reduceIte, Int.reduceLT, Int.reduceLE, Int.reducePow, Int.reduceNeg, Int.reduceAdd, Int.reduceMul, Int.reduceSub, Int.reduceEq, Nat.reduceAdd, Nat.reducePow, Nat.reduceLT, Nat.reduceMul, Nat.reduceSub, Nat.reduceLeDiff, Nat.reduceEqDiff, and_self, or_self]
  | list xs =>
    refine stepQ (iteT (by simp only [sizeLine, List.length_cons, List.length_nil, Nat.zero_add, okSL, okS, okE, okEL, okC, okO, runL, run, eval, evalL, evalC, putR, binD, addD, cmpD, b1D, b2D, isiD, subD, lenD, itemsD, ltD, lockR, unlockR, putS, pinned, isIm, optI, setP1, setP2, setP3, at0, at1, at2, at3, at4, decide_eq_true_eq, decide_eq_false_iff_not, okT, bindT, eqInt, eqBool, eqStr, eqNone, List.getElem?_cons_zero, List.getElem?_cons_succ, List.set_cons_zero, List.set_cons_succ, Option.some.injEq, exists_eq_left', exists_eq_left, exists_eq_right, exists_eq_right', and_true, true_and, and_false, false_and, or_true, true_or, or_false, false_or, if_true, if_false, List.all_cons, List.all_nil, List.map_cons, List.map_nil, Bool.and_true, Bool.true_and, Bool.and_false, Bool.false_and, reduceCtorEq, ne_eq, not_true, not_false_eq_true, forall_const, PyData.bool.injEq, PyData.int.injEq, PyData.str.injEq, PyData.list.injEq, PyData.tuple.injEq, Bool.false_eq_true, Bool.not_true, Bool.not_false, decide_true, decide_false, eq_self, exists_eq, Bool.not_eq_true,  forall_eq', forall_eq, false_implies, true_implies, Option.map_some, Option.map_none, imp_self, implies_true, Bool.true_eq_false, ↓reduceIte, Int.reduceLT, Int.reduceLE, Int.reducePow, Int.reduceNeg, Int.reduceAdd, Int.reduceMul, Int.reduceSub, Int.reduceEq, Nat.reduceAdd, Nat.reducePow, Nat.reduceLT, Nat.reduceMul, Nat.reduceSub, Nat.reduceLeDiff, Nat.reduceEqDiff, and_self, or_self]; rfl) ?_) retQ
    refine step (by simp only [sizeLine, List.length_cons, List.length_nil, Nat.zero_add, okSL, okS, okE, okEL, okC, okO, runL, run, eval, evalL, evalC, putR, binD, addD, cmpD, b1D, b2D, isiD, subD, lenD, itemsD, ltD, lockR, unlockR, putS, pinned, isIm, optI, setP1, setP2, setP3, at0, at1, at2, at3, at4, decide_eq_true_eq, decide_eq_false_iff_not, okT, bindT, eqInt, eqBool, eqStr, eqNone, List.getElem?_cons_zero, List.getElem?_cons_succ, List.set_cons_zero, List.set_cons_succ, Option.some.injEq, exists_eq_left', exists_eq_left, exists_eq_right, exists_eq_right', and_true, true_and, and_false, false_and, or_true, true_or, or_false, false_or, if_true, if_false, List.all_cons, List.all_nil, List.map_cons, List.map_nil, Bool.and_true, Bool.true_and, Bool.and_false, Bool.false_and, reduceCtorEq, ne_eq, not_true, not_false_eq_true, forall_const, PyData.bool.injEq, PyData.int.injEq, PyData.str.injEq, PyData.list.injEq, PyData.tuple.injEq, Bool.false_eq_true, Bool.not_true, Bool.not_false, decide_true, decide_false, eq_self, exists_eq, Bool.not_eq_true,  forall_eq', forall_eq, false_implies, true_implies, Option.map_some, Option.map_none, imp_self, implies_true, Bool.true_eq_false, ↓reduceIte, Int.reduceLT, Int.reduceLE, Int.reducePow, Int.reduceNeg, Int.reduceAdd, Int.reduceMul, Int.reduceSub, Int.reduceEq, Nat.reduceAdd, Nat.reducePow, Nat.reduceLT, Nat.reduceMul, Nat.reduceSub, Nat.reduceLeDiff, Nat.reduceEqDiff, and_self, or_self]; rfl) ?_
    rw [w_seq, w_ret, w_cmp, w_b1]
    have hl : xs.length ≤ 16777216 := hl
    have e1 : evalL F C [.b1 .len (.nm 1)] [.im (.list xs), .im (.list xs), .no] = some ([⟨.im, .int (xs.length : Nat)⟩], [.im (.list xs), .im (.list xs), .no]) := by simp only [sizeLine, List.length_cons, List.length_nil, Nat.zero_add, okSL, okS, okE, okEL, okC, okO, runL, run, eval, evalL, evalC, putR, binD, addD, cmpD, b1D, b2D, isiD, subD, lenD, itemsD, ltD, lockR, unlockR, putS, pinned, isIm, optI, setP1, setP2, setP3, at0, at1, at2, at3, at4, decide_eq_true_eq, decide_eq_false_iff_not, okT, bindT, eqInt, eqBool, eqStr, eqNone, List.getElem?_cons_zero, List.getElem?_cons_succ, List.set_cons_zero, List.set_cons_succ, Option.some.injEq, exists_eq_left', exists_eq_left, exists_eq_right, exists_eq_right', and_true, true_and, and_false, false_and, or_true, true_or, or_false, false_or, if_true, if_false, List.all_cons, List.all_nil, List.map_cons, List.map_nil, Bool.and_true, Bool.true_and, Bool.and_false, Bool.false_and, reduceCtorEq, ne_eq, not_true, not_false_eq_true, forall_const, PyData.bool.injEq, PyData.int.injEq, PyData.str.injEq, PyData.list.injEq, PyData.tuple.injEq, Bool.false_eq_true, Bool.not_true, Bool.not_false, decide_true, decide_false, eq_self, exists_eq, Bool.not_eq_true,  forall_eq', forall_eq, false_implies, true_implies, Option.map_some, Option.map_none, imp_self, implies_true, Bool.true_eq_false, ↓reduceIte, Int.reduceLT, Int.reduceLE, Int.reducePow, Int.reduceNeg, Int.reduceAdd, Int.reduceMul, Int.reduceSub, Int.reduceEq, Nat.reduceAdd, Nat.reducePow, Nat.reduceLT, Nat.reduceMul, Nat.reduceSub, Nat.reduceLeDiff, Nat.reduceEqDiff, and_self, or_self]
    have e2 : itD .r1 [⟨.im, .int (xs.length : Nat)⟩] = some (rng 0 (xs.length : Nat)) := lenItd (by omega) (by omega)
    generalize hst : ([.im (.list xs), .im (.list xs), .no] : Stt) = st at e1 ⊢
    refine l_comp e1 e2 (by subst hst; rfl) (fun i acc t => t = st ∧ acc = []) (by subst hst; exact ⟨rfl, rfl⟩) ?_ ?_
    · rintro i acc t hi ⟨rfl, rfl⟩
      subst hst
      rw [rng_get hi]
      rw [rng_len] at hi
      have hi' : i < xs.length := by omega
      have hx := hk xs[i] (List.getElem_mem hi')
      simp only [sizeLine, List.length_cons, List.length_nil, Nat.zero_add, okSL, okS, okE, okEL, okC, okO, runL, run, eval, evalL, evalC, putR, binD, addD, cmpD, b1D, b2D, isiD, subD, lenD, itemsD, ltD, lockR, unlockR, putS, pinned, isIm, optI, setP1, setP2, setP3, at0, at1, at2, at3, at4, decide_eq_true_eq, decide_eq_false_iff_not, okT, bindT, eqInt, eqBool, eqStr, eqNone, List.getElem?_cons_zero, List.getElem?_cons_succ, List.set_cons_zero, List.set_cons_succ, Option.some.injEq, exists_eq_left', exists_eq_left, exists_eq_right, exists_eq_right', and_true, true_and, and_false, false_and, or_true, true_or, or_false, false_or, if_true, if_false, List.all_cons, List.all_nil, List.map_cons, List.map_nil, Bool.and_true, Bool.true_and, Bool.and_false, Bool.false_and, reduceCtorEq, ne_eq, not_true, not_false_eq_true, forall_const, PyData.bool.injEq, PyData.int.injEq, PyData.str.injEq, PyData.list.injEq, PyData.tuple.injEq, Bool.false_eq_true, Bool.not_true, Bool.not_false, decide_true, decide_false, eq_self, exists_eq, Bool.not_eq_true,  forall_eq', forall_eq, false_implies, true_implies, Option.map_some, Option.map_none, imp_self, implies_true, Bool.true_eq_false, ↓reduceIte, Int.reduceLT, Int.reduceLE, Int.reducePow, Int.reduceNeg, Int.reduceAdd, Int.reduceMul, Int.reduceSub, Int.reduceEq, Nat.reduceAdd, Nat.reducePow, Nat.reduceLT, Nat.reduceMul, Nat.reduceSub, Nat.reduceLeDiff, Nat.reduceEqDiff, and_self, or_self, at_i hi', hx, hio, hfr, Bool.or_true, Bool.true_or]
      exact ⟨fun z => (by cases z), fun _ => ⟨rfl, rfl⟩⟩
    · rintro acc t ⟨rfl, rfl⟩
      subst hst
      simp only [sizeLine, List.length_cons, List.length_nil, Nat.zero_add, okSL, okS, okE, okEL, okC, okO, runL, run, eval, evalL, evalC, putR, binD, addD, cmpD, b1D, b2D, isiD, subD, lenD, itemsD, ltD, lockR, unlockR, putS, pinned, isIm, optI, setP1, setP2, setP3, at0, at1, at2, at3, at4, decide_eq_true_eq, decide_eq_false_iff_not, okT, bindT, eqInt, eqBool, eqStr, eqNone, List.getElem?_cons_zero, List.getElem?_cons_succ, List.set_cons_zero, List.set_cons_succ, Option.some.injEq, exists_eq_left', exists_eq_left, exists_eq_right, exists_eq_right', and_true, true_and, and_false, false_and, or_true, true_or, or_false, false_or, if_true, if_false, List.all_cons, List.all_nil, List.map_cons, List.map_nil, Bool.and_true, Bool.true_and, Bool.and_false, Bool.false_and, reduceCtorEq, ne_eq, not_true, not_false_eq_true, forall_const, PyData.bool.injEq, PyData.int.injEq, PyData.str.injEq, PyData.list.injEq, PyData.tuple.injEq, Bool.false_eq_true, Bool.not_true, Bool.not_false, decide_true, decide_false, eq_self, exists_eq, Bool.not_eq_true,  forall_eq', forall_eq, false_implies, true_implies, Option.map_some, Option.map_none, imp_self, implies_true, Bool.true_eq_false, ↓reduceIte, Int.reduceLT, Int.reduceLE, Int.reducePow, Int.reduceNeg, Int.reduceAdd, Int.reduceMul, Int.reduceSub, Int.reduceEq, Nat.reduceAdd, Nat.reducePow, Nat.reduceLT, Nat.reduceMul, Nat.reduceSub, Nat.reduceLeDiff, Nat.reduceEqDiff, and_self, or_self]
      rfl
  | tuple xs =>
    refine stepQ (iteT (by simp only [sizeLine, List.length_cons, List.length_nil, Nat.zero_add, okSL, okS, okE, okEL, okC, okO, runL, run, eval, evalL, evalC, putR, binD, addD, cmpD, b1D, b2D, isiD, subD, lenD, itemsD, ltD, lockR, unlockR, putS, pinned, isIm, optI, setP1, setP2, setP3, at0, at1, at2, at3, at4, decide_eq_true_eq, decide_eq_false_iff_not, okT, bindT, eqInt, eqBool, eqStr, eqNone, List.getElem?_cons_zero, List.getElem?_cons_succ, List.set_cons_zero, List.set_cons_succ, Option.some.injEq, exists_eq_left', exists_eq_left, exists_eq_right, exists_eq_right', and_true, true_and, and_false, false_and, or_true, true_or, or_false, false_or, if_true, if_false, List.all_cons, List.all_nil, List.map_cons, List.map_nil, Bool.and_true, Bool.true_and, Bool.and_false, Bool.false_and, reduceCtorEq, ne_eq, not_true, not_false_eq_true, forall_const, PyData.bool.injEq, PyData.int.injEq, PyData.str.injEq, PyData.list.injEq, PyData.tuple.injEq, Bool.false_eq_true, Bool.not_true, Bool.not_false, decide_true, decide_false, eq_self, exists_eq, Bool.not_eq_true,  forall_eq', forall_eq, false_implies, true_implies, Option.map_some, Option.map_none, imp_self, implies_true, Bool.true_eq_false, ↓reduceIte, Int.reduceLT, Int.reduceLE, Int.reducePow, Int.reduceNeg, Int.reduceAdd, Int.reduceMul, Int.reduceSub, Int.reduceEq, Nat.reduceAdd, Nat.reducePow, Nat.reduceLT, Nat.reduceMul, Nat.reduceSub, Nat.reduceLeDiff, Nat.reduceEqDiff, and_self, or_self]; rfl) ?_) retQ
    refine step (by simp only [sizeLine, List.length_cons, List.length_nil, Nat.zero_add, okSL, okS, okE, okEL, okC, okO, runL, run, eval, evalL, evalC, putR, binD, addD, cmpD, b1D, b2D, isiD, subD, lenD, itemsD, ltD, lockR, unlockR, putS, pinned, isIm, optI, setP1, setP2, setP3, at0, at1, at2, at3, at4, decide_eq_true_eq, decide_eq_false_iff_not, okT, bindT, eqInt, eqBool, eqStr, eqNone, List.getElem?_cons_zero, List.getElem?_cons_succ, List.set_cons_zero, List.set_cons_succ, Option.some.injEq, exists_eq_left', exists_eq_left, exists_eq_right, exists_eq_right', and_true, true_and, and_false, false_and, or_true, true_or, or_false, false_or, if_true, if_false, List.all_cons, List.all_nil, List.map_cons, List.map_nil, Bool.and_true, Bool.true_and, Bool.and_false, Bool.false_and, reduceCtorEq, ne_eq, not_true, not_false_eq_true, forall_const, PyData.bool.injEq, PyData.int.injEq, PyData.str.injEq, PyData.list.injEq, PyData.tuple.injEq, Bool.false_eq_true, Bool.not_true, Bool.not_false, decide_true, decide_false, eq_self, exists_eq, Bool.not_eq_true,  forall_eq', forall_eq, false_implies, true_implies, Option.map_some, Option.map_none, imp_self, implies_true, Bool.true_eq_false, ↓reduceIte, Int.reduceLT, Int.reduceLE, Int.reducePow, Int.reduceNeg, Int.reduceAdd, Int.reduceMul, Int.reduceSub, Int.reduceEq, Nat.reduceAdd, Nat.reducePow, Nat.reduceLT, Nat.reduceMul, Nat.reduceSub, Nat.reduceLeDiff, Nat.reduceEqDiff, and_self, or_self]; rfl) ?_
    rw [w_seq, w_ret, w_cmp, w_b1]
    have hl : xs.length ≤ 16777216 := hl
    have e1 : evalL F C [.b1 .len (.nm 1)] [.im (.tuple xs), .im (.tuple xs), .no] = some ([⟨.im, .int (xs.length : Nat)⟩], [.im (.tuple xs), .im (.tuple xs), .no]) := by simp only [sizeLine, List.length_cons, List.length_nil, Nat.zero_add, okSL, okS, okE, okEL, okC, okO, runL, run, eval, evalL, evalC, putR, binD, addD, cmpD, b1D, b2D, isiD, subD, lenD, itemsD, ltD, lockR, unlockR, putS, pinned, isIm, optI, setP1, setP2, setP3, at0, at1, at2, at3, at4, decide_eq_true_eq, decide_eq_false_iff_not, okT, bindT, eqInt, eqBool, eqStr, eqNone, List.getElem?_cons_zero, List.getElem?_cons_succ, List.set_cons_zero, List.set_cons_succ, Option.some.injEq, exists_eq_left', exists_eq_left, exists_eq_right, exists_eq_right', and_true, true_and, and_false, false_and, or_true, true_or, or_false, false_or, if_true, if_false, List.all_cons, List.all_nil, List.map_cons, List.map_nil, Bool.and_true, Bool.true_and, Bool.and_false, Bool.false_and, reduceCtorEq, ne_eq, not_true, not_false_eq_true, forall_const, PyData.bool.injEq, PyData.int.injEq, PyData.str.injEq, PyData.list.injEq, PyData.tuple.injEq, Bool.false_eq_true, Bool.not_true, Bool.not_false, decide_true, decide_false, eq_self, exists_eq, Bool.not_eq_true,  forall_eq', forall_eq, false_implies, true_implies, Option.map_some, Option.map_none, imp_self, implies_true, Bool.true_eq_false, ↓reduceIte, Int.reduceLT, Int.reduceLE, Int.reducePow, Int.reduceNeg, Int.reduceAdd, Int.reduceMul, Int.reduceSub, Int.reduceEq, Nat.reduceAdd, Nat.reducePow, Nat.reduceLT, Nat.reduceMul, Nat.reduceSub, Nat.reduceLeDiff, Nat.reduceEqDiff, and_self, or_self]
    have e2 : itD .r1 [⟨.im, .int (xs.length : Nat)⟩] = some (rng 0 (xs.length : Nat)) := lenItd (by omega) (by omega)
    generalize hst : ([.im (.tuple xs), .im (.tuple xs), .no] : Stt) = st at e1 ⊢
    refine l_comp e1 e2 (by subst hst; rfl) (fun i acc t => t = st ∧ acc = []) (by subst hst; exact ⟨rfl, rfl⟩) ?_ ?_
    · rintro i acc t hi ⟨rfl, rfl⟩
      subst hst
      rw [rng_get hi]
      rw [rng_len] at hi
      have hi' : i < xs.length := by omega
      have hx := hk xs[i] (List.getElem_mem hi')
      simp only [sizeLine, List.length_cons, List.length_nil, Nat.zero_add, okSL, okS, okE, okEL, okC, okO, runL, run, eval, evalL, evalC, putR, binD, addD, cmpD, b1D, b2D, isiD, subD, lenD, itemsD, ltD, lockR, unlockR, putS, pinned, isIm, optI, setP1, setP2, setP3, at0, at1, at2, at3, at4, decide_eq_true_eq, decide_eq_false_iff_not, okT, bindT, eqInt, eqBool, eqStr, eqNone, List.getElem?_cons_zero, List.getElem?_cons_succ, List.set_cons_zero, List.set_cons_succ, Option.some.injEq, exists_eq_left', exists_eq_left, exists_eq_right, exists_eq_right', and_true, true_and, and_false, false_and, or_true, true_or, or_false, false_or, if_true, if_false, List.all_cons, List.all_nil, List.map_cons, List.map_nil, Bool.and_true, Bool.true_and, Bool.and_false, Bool.false_and, reduceCtorEq, ne_eq, not_true, not_false_eq_true, forall_const, PyData.bool.injEq, PyData.int.injEq, PyData.str.injEq, PyData.list.injEq, PyData.tuple.injEq, Bool.false_eq_true, Bool.not_true, Bool.not_false, decide_true, decide_false, eq_self, exists_eq, Bool.not_eq_true,  forall_eq', forall_eq, false_implies, true_implies, Option.map_some, Option.map_none, imp_self, implies_true, Bool.true_eq_false, ↓reduceIte, Int.reduceLT, Int.reduceLE, Int.reducePow, Int.reduceNeg, Int.reduceAdd, Int.reduceMul, Int.reduceSub, Int.reduceEq, Nat.reduceAdd, Nat.reducePow, Nat.reduceLT, Nat.reduceMul, Nat.reduceSub, Nat.reduceLeDiff, Nat.reduceEqDiff, and_self, or_self, at_i hi', hx, hio, hfr, Bool.or_true, Bool.true_or]
      exact ⟨fun z => (by cases z), fun _ => ⟨rfl, rfl⟩⟩
    · rintro acc t ⟨rfl, rfl⟩
      subst hst
      simp only [sizeLine, List.length_cons, List.length_nil, Nat.zero_add, okSL, okS, okE, okEL, okC, okO, runL, run, eval, evalL, evalC, putR, binD, addD, cmpD, b1D, b2D, isiD, subD, lenD, itemsD, ltD, lockR, unlockR, putS, pinned, isIm, optI, setP1, setP2, setP3, at0, at1, at2, at3, at4, decide_eq_true_eq, decide_eq_false_iff_not, okT, bindT, eqInt, eqBool, eqStr, eqNone, List.getElem?_cons_zero, List.getElem?_cons_succ, List.set_cons_zero, List.set_cons_succ, Option.some.injEq, exists_eq_left', exists_eq_left, exists_eq_right, exists_eq_right', and_true, true_and, and_false, false_and, or_true, true_or, or_false, false_or, if_true, if_false, List.all_cons, List.all_nil, List.map_cons, List.map_nil, Bool.and_true, Bool.true_and, Bool.and_false, Bool.false_and, reduceCtorEq, ne_eq, not_true, not_false_eq_true, forall_const, PyData.bool.injEq, PyData.int.injEq, PyData.str.injEq, PyData.list.injEq, PyData.tuple.injEq, Bool.false_eq_true, Bool.not_true, Bool.not_false, decide_true, decide_false, eq_self, exists_eq, Bool.not_eq_true,  forall_eq', forall_eq, false_implies, true_implies, Option.map_some, Option.map_none, imp_self, implies_true, Bool.true_eq_false, ↓reduceIte, Int.reduceLT, Int.reduceLE, Int.reducePow, Int.reduceNeg, Int.reduceAdd, Int.reduceMul, Int.reduceSub, Int.reduceEq, Nat.reduceAdd, Nat.reducePow, Nat.reduceLT, Nat.reduceMul, Nat.reduceSub, Nat.reduceLeDiff, Nat.reduceEqDiff, and_self, or_self]
      rfl
mutual
/-- no dict within, and short -/
def plD : PyData → Bool
  | .none | .bool _ | .int _ | .str _ => true
  | .list xs => plL xs && decide (xs.length ≤ 16777216)
  | .tuple xs => plL xs && decide (xs.length ≤ 16777216)
  | .dict _ => false
def plL : List PyData → Bool
  | [] => true
  | x :: xs => plD x && plL xs
end
mutual
def dpD : PyData → Nat
  | .list xs => dpL xs + 1
  | .tuple xs => dpL xs + 1
  | _ => 0
def dpL : List PyData → Nat
  | [] => 0
  | x :: xs => max (dpD x) (dpL xs)
end
theorem plL_mem {xs : List PyData} (h : plL xs = true) {x : PyData} (hx : x ∈ xs) : plD x = true := by
  induction xs with
  | nil => cases hx
  | cons a l ih =>
    simp only [plL, Bool.and_eq_true] at h
    rcases List.mem_cons.mp hx with rfl | hx
    · exact h.1
    · exact ih h.2 hx
theorem dpL_mem {xs : List PyData} {x : PyData} (hx : x ∈ xs) : dpD x ≤ dpL xs := by
  induction xs with
  | nil => cases hx
  | cons a l ih =>
    simp only [dpL]
    rcases List.mem_cons.mp hx with rfl | hx
    · exact Nat.le_max_left _ _
    · exact Nat.le_trans (ih hx) (Nat.le_max_right _ _)
/-- within enough levels -/
theorem same_lev {T : List Df} {C : Nat → PyData} {i : Nat} {D : Df} (hT : T[i]? = some D) (h1 : D.N.length = 3) (h2 : D.io = false) (h3 : D.fr = false) (h4 : D.ir = ir__law_same i) : ∀ (k : Nat) (d : PyData), plD d = true → dpD d < k → (lev T C k i).sem [d, d] = some (.bool true, .none) := by
  intro k
  induction k with
  | zero => intro d _ h; omega
  | succ k ih =>
    intro d hp hk
    have e : (lev T C (k + 1) i).sem [d, d] = semOf (lev T C k) C 3 false false (ir__law_same i) [d, d] := by
      show (match T[i]? with
        | some D => semOf (lev T C k) C D.N.length D.io D.fr D.ir [d, d]
        | none => none) = _
      rw [hT]
      simp only [h1, h2, h3, h4]
    have hio : (lev T C k i).io = false := by cases k <;> simp only [lev, hT, Option.map_some, Option.getD_some, h2]
    have hfr : (lev T C k i).fr = false := by cases k <;> simp only [lev, hT, Option.map_some, Option.getD_some, h3]
    rw [e]
    refine same_step hio hfr (fun x hx => ?_) ?_ fun kvs z => by subst z; simp [plD] at hp
    · cases d with
      | list xs =>
        simp only [plD, Bool.and_eq_true] at hp
        simp only [dpD] at hk
        exact ih x (plL_mem hp.1 hx) (by have := dpL_mem (x := x) (xs := xs) hx; omega)
      | tuple xs =>
        simp only [plD, Bool.and_eq_true] at hp
        simp only [dpD] at hk
        exact ih x (plL_mem hp.1 hx) (by have := dpL_mem (x := x) (xs := xs) hx; omega)
      | _ => cases hx
    · cases d with
      | list xs => simp only [plD, Bool.and_eq_true, decide_eq_true_eq] at hp; exact hp.2
      | tuple xs => simp only [plD, Bool.and_eq_true, decide_eq_true_eq] at hp; exact hp.2
      | _ => exact Nat.zero_le _
end
end Ev

set_option autoImplicit false
/-! Ev18: texts; the common start of two of them. -/
namespace Ev
open PySem
open L2 (atI ixN)
theorem chr_eq {x y : Nat} : ((⟨#[x]⟩ : Str) = ⟨#[y]⟩) ↔ x = y := by simp
theorem S_eq {a b : List Nat} : (S a = S b) ↔ a = b := ⟨S_inj, fun h => by rw [h]⟩
theorem S_app {a b : List Nat} : S a ++ S b = S (a ++ b) := by
  show (⟨(S a).cps ++ (S b).cps⟩ : Str) = _
  simp [S]
theorem addS {a b : List Nat} (h : a.length + b.length ≤ 16777216) : addD (.str (S a)) (.str (S b)) = some ⟨.im, .str (S (a ++ b))⟩ := by
  unfold addD
  simp only [S_len, S_app]
  rw [if_pos (by show _ ≤ 16777216; exact h)]
theorem lenS {a : List Nat} (h : a.length ≤ 16777216) : lenD (.str (S a)) = some a.length := by
  unfold lenD
  simp only [S_len]
  rw [if_pos (by show _ ≤ 16777216; exact h)]
theorem subS {a : List Nat} {i : Nat} (h : a.length ≤ 16777216) (hi : i < a.length) : subD (.str (S a)) (.int (i : Int)) = some (.str (S [a[i]])) := by
  unfold subD
  simp only [S_len, S_cps]
  rw [if_pos (by show _ ≤ 16777216; exact h), L2.atI_nat (List.getElem?_eq_getElem hi)]
  rfl
theorem cutS_from {a : List Nat} {n : Nat} (h : a.length ≤ 16777216) (hn : n ≤ a.length) : slcD (.str (S a)) (some (n : Int)) none = some ⟨.im, .str (S (a.drop n))⟩ := by
  unfold slcD
  simp only [S_len]
  rw [if_pos (by show _ ≤ 16777216; exact h)]
  unfold L2.cutS
  rw [S_len, S_cps, HT.sIx_nat, HT.sIx_none, Nat.min_eq_left hn]
  congr 3
  show (_ : Str) = S _
  unfold S
  rw [List.take_of_length_le (by rw [List.length_drop]; exact Nat.le_refl _)]
theorem cutS_to {a : List Nat} {n : Nat} (h : a.length ≤ 16777216) : slcD (.str (S a)) none (some (n : Int)) = some ⟨.im, .str (S (a.take n))⟩ := by
  unfold slcD
  simp only [S_len]
  rw [if_pos (by show _ ≤ 16777216; exact h)]
  unfold L2.cutS
  rw [S_len, S_cps, HT.sIx_nat, HT.sIx_none, List.drop_zero, Nat.sub_zero]
  congr 3
  show (_ : Str) = S _
  unfold S
  rcases Nat.le_total n a.length with z | z
  · rw [Nat.min_eq_left z]
  · rw [Nat.min_eq_right z, List.take_of_length_le z, List.take_of_length_le (Nat.le_refl _)]
theorem itemsS {a : List Nat} : itemsD (.str (S a)) = some (a.map fun c => .str (S [c])) := by
  unfold itemsD
  simp only [S_cps]
  rfl
def lcp : List Nat → List Nat → Nat
  | x :: a, y :: b => if x = y then lcp a b + 1 else 0
  | _, _ => 0
theorem lcp_le : ∀ (a b : List Nat), lcp a b ≤ a.length ∧ lcp a b ≤ b.length
  | [], b => by simp [lcp]
  | x :: a, [] => by simp [lcp]
  | x :: a, y :: b => by
    have := lcp_le a b
    unfold lcp
    split <;> simp only [List.length_cons] <;> omega
theorem lcp_comm : ∀ (a b : List Nat), lcp a b = lcp b a
  | [], [] => rfl
  | [], _ :: _ => rfl
  | _ :: _, [] => rfl
  | x :: a, y :: b => by
    unfold lcp
    rw [lcp_comm a b]
    by_cases h : x = y
    · rw [if_pos h, if_pos h.symm]
    · rw [if_neg h, if_neg (fun z => h z.symm)]
theorem lcp_app : ∀ (c a b : List Nat), lcp (c ++ a) (c ++ b) = c.length + lcp a b
  | [], a, b => by simp
  | x :: c, a, b => by
    have e : lcp (x :: (c ++ a)) (x :: (c ++ b)) = lcp (c ++ a) (c ++ b) + 1 := by rw [lcp, if_pos rfl]
    show lcp (x :: (c ++ a)) (x :: (c ++ b)) = _
    rw [e, lcp_app c a b, List.length_cons]
    omega
theorem lcp_take : ∀ (a b : List Nat), a.take (lcp a b) = b.take (lcp a b)
  | [], [] => rfl
  | [], _ :: _ => rfl
  | _ :: _, [] => rfl
  | x :: a, y :: b => by
    unfold lcp
    split
    · rename_i h
      rw [List.take_succ_cons, List.take_succ_cons, lcp_take a b, h]
    · rfl
theorem lcp_uniq : ∀ (a b : List Nat) (n : Nat), n ≤ a.length → n ≤ b.length → (∀ j, j < n → a[j]? = b[j]?) → (n < a.length → n < b.length → a[n]? ≠ b[n]?) → lcp a b = n
  | [], b, n, h1, _, _, _ => by
    have : n = 0 := by simpa using h1
    subst this
    rfl
  | x :: a, [], n, _, h2, _, _ => by
    have : n = 0 := by simpa using h2
    subst this
    rfl
  | x :: a, y :: b, 0, _, _, _, h4 => by
    have := h4 (by simp) (by simp)
    unfold lcp
    rw [if_neg (fun z => this (by rw [z]; rfl))]
  | x :: a, y :: b, n + 1, h1, h2, h3, h4 => by
    have hxy : x = y := by
      have := h3 0 (by omega)
      simpa using this
    unfold lcp
    rw [if_pos hxy, lcp_uniq a b n (by simpa using h1) (by simpa using h2) (fun j hj => by
      have := h3 (j + 1) (by omega)
      simpa using this) (fun p q => by
      have := h4 (by simpa using p) (by simpa using q)
      simpa using this)]
section
variable {F : Nat → Fn} {C : Nat → PyData}
def ir_common : List Sx := [.set 2 false (.b2 .min (.b1 .len (.nm 0)) (.b1 .len (.nm 1))),
  .for (.n 3) .r1 [(.nm 2)] [.ite (.cmp .ne (.sub (.nm 0) (.nm 3)) (.sub (.nm 1) (.nm 3))) [.ret (.nm 3)] []],
  .ret (.nm 2)]
theorem ran_min (x y : Int) : (if y < x then y else x) = min x y := by
  by_cases h : y < x
  · rw [if_pos h, Int.min_eq_right (by omega)]
  · rw [if_neg h, Int.min_eq_left (by omega)]
theorem common_sem {a b : List Nat} (ha : a.length ≤ 1000000) (hb : b.length ≤ 1000000) : semOf F C 4 false false ir_common [.str (S a), .str (S b)] = some (.int (lcp a b), .none) := by
  refine sem_rt ?_
  unfold ir_common
  show okSL F C _ [.im (.str (S a)), .im (.str (S b)), .no, .no] _
  have la := lenS (a := a) (by omega)
  have lb := lenS (a := b) (by omega)
  refine step (s1 := [.im (.str (S a)), .im (.str (S b)), .im (.int ((min a.length b.length : Nat) : Int)), .no]) (by
    have hm' : min (a.length : Int) (b.length : Int) = ((min a.length b.length : Nat) : Int) := by omega
    simp only [sizeLine, List.length_cons, List.length_nil, Nat.zero_add, okSL, okS, okE, okEL, okC, okO, runL, run, eval, evalL, evalC, putR, binD, cmpD, b1D, b2D, isiD, ltD, lockR, unlockR, putS, pinned, isIm, optI, setP1, setP2, setP3, at0, at1, at2, at3, at4, decide_eq_true_eq, decide_eq_false_iff_not, okT, bindT, eqInt, eqBool, eqStr, eqNone, List.getElem?_cons_zero, List.getElem?_cons_succ, List.set_cons_zero, List.set_cons_succ, Option.some.injEq, exists_eq_left', exists_eq_left, exists_eq_right, exists_eq_right', and_true, true_and, and_false, false_and, or_true, true_or, or_false, false_or, if_true, if_false, List.all_cons, List.all_nil, List.map_cons, List.map_nil, Bool.and_true, Bool.true_and, Bool.and_false, Bool.false_and, reduceCtorEq, ne_eq, not_true, not_false_eq_true, forall_const, PyData.bool.injEq, PyData.int.injEq, PyData.str.injEq, PyData.list.injEq, PyData.tuple.injEq, Bool.false_eq_true, Bool.not_true, Bool.not_false, decide_true, decide_false, eq_self, exists_eq, Bool.not_eq_true,  forall_eq', forall_eq, false_implies, true_implies, Option.map_some, Option.map_none, imp_self, implies_true, Bool.true_eq_false, ↓reduceIte, Int.reduceLT, Int.reduceLE, Int.reducePow, Int.reduceNeg, Int.reduceAdd, Int.reduceMul, Int.reduceSub, Int.reduceEq, Nat.reduceAdd, Nat.reducePow, Nat.reduceLT, Nat.reduceMul, Nat.reduceSub, Nat.reduceLeDiff, Nat.reduceEqDiff, and_self, or_self, la, lb, ran_min, hm']) ?_
  generalize hm : min a.length b.length = m
  have e1 : evalL F C [.nm 2] [.im (.str (S a)), .im (.str (S b)), .im (.int (m : Int)), .no] = some ([⟨.im, .int (m : Int)⟩], [.im (.str (S a)), .im (.str (S b)), .im (.int (m : Int)), .no]) := by simp only [sizeLine, List.length_cons, List.length_nil, Nat.zero_add, okSL, okS, okE, okEL, okC, okO, runL, run, eval, evalL, evalC, putR, binD, addD, cmpD, b1D, b2D, isiD, subD, lenD, itemsD, ltD, lockR, unlockR, putS, pinned, isIm, optI, setP1, setP2, setP3, at0, at1, at2, at3, at4, decide_eq_true_eq, decide_eq_false_iff_not, okT, bindT, eqInt, eqBool, eqStr, eqNone, List.getElem?_cons_zero, List.getElem?_cons_succ, List.set_cons_zero, List.set_cons_succ, Option.some.injEq, exists_eq_left', exists_eq_left, exists_eq_right, exists_eq_right', and_true, true_and, and_false, false_and, or_true, true_or, or_false, false_or, if_true, if_false, List.all_cons, List.all_nil, List.map_cons, List.map_nil, Bool.and_true, Bool.true_and, Bool.and_false, Bool.false_and, reduceCtorEq, ne_eq, not_true, not_false_eq_true, forall_const, PyData.bool.injEq, PyData.int.injEq, PyData.str.injEq, PyData.list.injEq, PyData.tuple.injEq, Bool.false_eq_true, Bool.not_true, Bool.not_false, decide_true, decide_false, eq_self, exists_eq, Bool.not_eq_true,  forall_eq', forall_eq, false_implies, true_implies, Option.map_some, Option.map_none, imp_self, implies_true, Bool.true_eq_false, ↓reduceIte, Int.reduceLT, Int.reduceLE, Int.reducePow, Int.reduceNeg, Int.reduceAdd, Int.reduceMul, Int.reduceSub, Int.reduceEq, Nat.reduceAdd, Nat.reducePow, Nat.reduceLT, Nat.reduceMul, Nat.reduceSub, Nat.reduceLeDiff, Nat.reduceEqDiff, and_self, or_self]
  have e2 : itD .r1 [⟨.im, .int (m : Int)⟩] = some (rng 0 (m : Int)) := lenItd (by omega) (by omega)
  generalize hst : ([.im (.str (S a)), .im (.str (S b)), .im (.int (m : Int)), .no] : Stt) = st at e1 ⊢
  refine stepQ (Q0 := fun f t => (f = .nx ∧ ∃ k, t = [.im (.str (S a)), .im (.str (S b)), .im (.int (m : Int)), k] ∧ lcp a b = m) ∨ f = .rt (.int (lcp a b))) ?_ ?_
  · refine l_forR e1 e2 (fun i t => (∃ k, t = [.im (.str (S a)), .im (.str (S b)), .im (.int (m : Int)), k] ∧ (k = .no ∨ ∃ d, k = .im d)) ∧ ∀ j, j < i → a[j]? = b[j]?) (fun d t => d = .int (lcp a b)) ⟨⟨_, by subst hst; rfl, .inl rfl⟩, fun j hj => by omega⟩ ?_ ?_ ?_
    · rintro i t hi ⟨⟨k, rfl, hk⟩, he⟩
      rw [rng_get hi]
      rw [rng_len] at hi
      have hia : i < a.length := by omega
      have hib : i < b.length := by omega
      have sa := subS (a := a) (i := i) (by omega) hia
      have sb := subS (a := b) (i := i) (by omega) hib
      by_cases h : a[i] = b[i]
      · rcases hk with rfl | ⟨d, rfl⟩
        all_goals
          simp only [sizeLine, List.length_cons, List.length_nil, Nat.zero_add, okSL, okS, okE, okEL, okC, okO, runL, run, eval, evalL, evalC, putR, binD, cmpD, b1D, b2D, isiD, ltD, lockR, unlockR, putS, pinned, isIm, optI, setP1, setP2, setP3, at0, at1, at2, at3, at4, decide_eq_true_eq, decide_eq_false_iff_not, okT, bindT, eqInt, eqBool, eqStr, eqNone, List.getElem?_cons_zero, List.getElem?_cons_succ, List.set_cons_zero, List.set_cons_succ, Option.some.injEq, exists_eq_left', exists_eq_left, exists_eq_right, exists_eq_right', and_true, true_and, and_false, false_and, or_true, true_or, or_false, false_or, if_true, if_false, List.all_cons, List.all_nil, List.map_cons, List.map_nil, Bool.and_true, Bool.true_and, Bool.and_false, Bool.false_and, reduceCtorEq, ne_eq, not_true, not_false_eq_true, forall_const, PyData.bool.injEq, PyData.int.injEq, PyData.str.injEq, PyData.list.injEq, PyData.tuple.injEq, Bool.false_eq_true, Bool.not_true, Bool.not_false, decide_true, decide_false, eq_self, exists_eq, Bool.not_eq_true,  forall_eq', forall_eq, false_implies, true_implies, Option.map_some, Option.map_none, imp_self, implies_true, Bool.true_eq_false, ↓reduceIte, Int.reduceLT, Int.reduceLE, Int.reducePow, Int.reduceNeg, Int.reduceAdd, Int.reduceMul, Int.reduceSub, Int.reduceEq, Nat.reduceAdd, Nat.reducePow, Nat.reduceLT, Nat.reduceMul, Nat.reduceSub, Nat.reduceLeDiff, Nat.reduceEqDiff, and_self, or_self, Int.zero_add, sa, sb, S_eq, h, List.cons.injEq]
          refine ⟨⟨_, rfl⟩, fun j hj => ?_⟩
          rcases Nat.lt_or_eq_of_le (Nat.le_of_lt_succ hj) with z | rfl
          · exact he j z
          · rw [List.getElem?_eq_getElem hia, List.getElem?_eq_getElem hib, h]
      · have hl : lcp a b = i := lcp_uniq a b i (by omega) (by omega) he fun _ _ => by
          rw [List.getElem?_eq_getElem hia, List.getElem?_eq_getElem hib]
          simpa using h
        rcases hk with rfl | ⟨d, rfl⟩
        all_goals
          simp only [sizeLine, List.length_cons, List.length_nil, Nat.zero_add, okSL, okS, okE, okEL, okC, okO, runL, run, eval, evalL, evalC, putR, binD, cmpD, b1D, b2D, isiD, ltD, lockR, unlockR, putS, pinned, isIm, optI, setP1, setP2, setP3, at0, at1, at2, at3, at4, decide_eq_true_eq, decide_eq_false_iff_not, okT, bindT, eqInt, eqBool, eqStr, eqNone, List.getElem?_cons_zero, List.getElem?_cons_succ, List.set_cons_zero, List.set_cons_succ, Option.some.injEq, exists_eq_left', exists_eq_left, exists_eq_right, exists_eq_right', and_true, true_and, and_false, false_and, or_true, true_or, or_false, false_or, if_true, if_false, List.all_cons, List.all_nil, List.map_cons, List.map_nil, Bool.and_true, Bool.true_and, Bool.and_false, Bool.false_and, reduceCtorEq, ne_eq, not_true, not_false_eq_true, forall_const, PyData.bool.injEq, PyData.int.injEq, PyData.str.injEq, PyData.list.injEq, PyData.tuple.injEq, Bool.false_eq_true, Bool.not_true, Bool.not_false, decide_true, decide_false, eq_self, exists_eq, Bool.not_eq_true,  forall_eq', forall_eq, false_implies, true_implies, Option.map_some, Option.map_none, imp_self, implies_true, Bool.true_eq_false, ↓reduceIte, Int.reduceLT, Int.reduceLE, Int.reducePow, Int.reduceNeg, Int.reduceAdd, Int.reduceMul, Int.reduceSub, Int.reduceEq, Nat.reduceAdd, Nat.reducePow, Nat.reduceLT, Nat.reduceMul, Nat.reduceSub, Nat.reduceLeDiff, Nat.reduceEqDiff, and_self, or_self, Int.zero_add, sa, sb, S_eq, h, List.cons.injEq]
          rw [hl]
    · rintro d t rfl
      exact .inr rfl
    · rintro t ⟨⟨k, rfl, hk⟩, he⟩
      rw [rng_len] at he
      refine .inl ⟨rfl, k, rfl, lcp_uniq a b m (by omega) (by omega) (fun j hj => he j (by omega)) fun p q => by omega⟩
  · rintro f t (⟨rfl, k, rfl, hl⟩ | rfl)
    · refine ⟨fun _ => ?_, fun z => absurd rfl z⟩
      rw [← hl]
      refine stepR (f := .rt _) (by simp only [sizeLine, List.length_cons, List.length_nil, Nat.zero_add, okSL, okS, okE, okEL, okC, okO, runL, run, eval, evalL, evalC, putR, binD, addD, cmpD, b1D, b2D, isiD, subD, lenD, itemsD, ltD, lockR, unlockR, putS, pinned, isIm, optI, setP1, setP2, setP3, at0, at1, at2, at3, at4, decide_eq_true_eq, decide_eq_false_iff_not, okT, bindT, eqInt, eqBool, eqStr, eqNone, List.getElem?_cons_zero, List.getElem?_cons_succ, List.set_cons_zero, List.set_cons_succ, Option.some.injEq, exists_eq_left', exists_eq_left, exists_eq_right, exists_eq_right', and_true, true_and, and_false, false_and, or_true, true_or, or_false, false_or, if_true, if_false, List.all_cons, List.all_nil, List.map_cons, List.map_nil, Bool.and_true, Bool.true_and, Bool.and_false, Bool.false_and, reduceCtorEq, ne_eq, not_true, not_false_eq_true, forall_const, PyData.bool.injEq, PyData.int.injEq, PyData.str.injEq, PyData.list.injEq, PyData.tuple.injEq, Bool.false_eq_true, Bool.not_true, Bool.not_false, decide_true, decide_false, eq_self, exists_eq, Bool.not_eq_true,  forall_eq', forall_eq, false_implies, true_implies, Option.map_some, Option.map_none, imp_self, implies_true, Bool.true_eq_false, ↓reduceIte, Int.reduceLT, Int.reduceLE, Int.reducePow, Int.reduceNeg, Int.reduceAdd, Int.reduceMul, Int.reduceSub, Int.reduceEq, Nat.reduceAdd, Nat.reducePow, Nat.reduceLT, Nat.reduceMul, Nat.reduceSub, Nat.reduceLeDiff, Nat.reduceEqDiff, and_self, or_self]; rfl) (fun z => nomatch z) rfl
    · exact ⟨fun z => (by cases z), fun _ => rfl⟩
end
end Ev

set_option autoImplicit false
/-! Ev19: comprehensions that change nothing. -/
namespace Ev
open PySem
open L2 (atI ixN)
section
variable {F : Nat → Fn} {C : Nat → PyData}
theorem p_comp {s s0 : Stt} {Q : Rs → Stt → Prop} {e : Ex} {tg : Tg} {k : Ik} {its cs : List Ex} {own : List (Str × Nat)} {rs : List Rs} {ds : List PyData} (c : PyData → Bool) (g : PyData → PyData) (hI : evalL F C its s = some (rs, s)) (hi : rs.all isIm = true) (hd : itD k rs = some ds) (hl : ds.length ≤ 16777216) (hf : freeS s (own.map (·.2)) = true)
    (hw : wipeS s (own.map (·.2)) = s0) (hb : backS s s0 (own.map (·.2)) = s)
    (hs : ∀ d ∈ ds, okT tg d s0 fun t1 => okC F C cs t1 fun b t2 => b = c d ∧ (b = true → okE F C e t2 fun r t3 => isIm r = true ∧ r.d = g d ∧ freeS t3 (own.map (·.2)) = true ∧ wipeS t3 (own.map (·.2)) = s0) ∧ (b = false → freeS t2 (own.map (·.2)) = true ∧ wipeS t2 (own.map (·.2)) = s0))
    (he : Q ⟨.fr, .list ((ds.filter c).map g)⟩ s) : okE F C (.comp e tg k its cs own) s Q := by
  have hlk : lockL rs s = s := lockL_im hi s
  have hul : ∀ t, unlockL rs s t = t := by
    clear hI hd hs he hlk
    induction rs with
    | nil => intro t; rfl
    | cons r rs ih =>
      intro t
      simp only [List.all_cons, Bool.and_eq_true] at hi
      show unlockR r s (unlockL rs (lockR r s) t) = t
      rw [unlockR_im hi.1, lockR_im hi.1]
      exact ih hi.2 t
  refine l_comp hI hd hf (fun i acc t => t = s0 ∧ acc = ((ds.take i).filter c).map g) ⟨by rw [hlk]; exact hw, rfl⟩ ?_ ?_
  · rintro i acc t hi' ⟨rfl, rfl⟩
    have h := hs ds[i] (List.getElem_mem hi')
    unfold okT at h ⊢
    cases eb : bindT tg ds[i] t with
    | none => rw [eb] at h; exact h
    | some t1 =>
      rw [eb] at h
      refine okO.imp h fun b t2 hh => ?_
      obtain ⟨h1, h2, h3⟩ := hh
      have ht : ds.take (i + 1) = ds.take i ++ [ds[i]] := by rw [List.take_succ_eq_append_getElem hi']
      refine ⟨fun hb => ?_, fun hb => ?_⟩
      · refine okO.imp (h2 hb) fun r t3 h4 => ⟨h4.1, ?_, h4.2.2.1, h4.2.2.2, ?_⟩
        · have a1 := List.length_filter_le c (ds.take i)
          have a2 : (ds.take i).length ≤ i := by rw [List.length_take]; omega
          rw [List.length_map]
          show _ < 16777216
          omega
        · rw [ht, List.filter_append, List.map_append, h4.2.1]
          have : c ds[i] = true := by rw [← h1, hb]
          simp [this]
      · obtain ⟨h4, h5⟩ := h3 hb
        refine ⟨h4, h5, ?_⟩
        rw [ht, List.filter_append, List.map_append]
        have : c ds[i] = false := by rw [← h1, hb]
        simp [this]
  · rintro acc t ⟨rfl, rfl⟩
    rw [hul, hb, List.take_length]
    exact he
theorem p_comp2 {s s0 : Stt} {Q : Rs → Stt → Prop} {e : Ex} {tg tg1 : Tg} {k k1 : Ik} {its its1 : List Ex} {own : List (Str × Nat)} {rs : List Rs} {ds : List PyData} (f : PyData → List PyData) (g : PyData → PyData → PyData) (hI : evalL F C its s = some (rs, s)) (hi : rs.all isIm = true) (hd : itD k rs = some ds) (hl : (ds.flatMap fun d => (f d).map (g d)).length ≤ 16777216) (hf : freeS s (own.map (·.2)) = true)
    (hw : wipeS s (own.map (·.2)) = s0) (hb : backS s s0 (own.map (·.2)) = s)
    (hs : ∀ d ∈ ds, okT tg d s0 fun t1 => ∃ rs1, evalL F C its1 t1 = some (rs1, t1) ∧ rs1.all isIm = true ∧ itD k1 rs1 = some (f d) ∧ freeS t1 (tgIx tg1) = true ∧ freeS (wipeS t1 (tgIx tg1)) (own.map (·.2)) = true ∧ wipeS (wipeS t1 (tgIx tg1)) (own.map (·.2)) = s0 ∧
      ∀ d1 ∈ f d, okT tg1 d1 (wipeS t1 (tgIx tg1)) fun u => okE F C e u fun r t3 => isIm r = true ∧ r.d = g d d1 ∧ freeS t3 (tgIx tg1) = true ∧ wipeS t3 (tgIx tg1) = wipeS t1 (tgIx tg1))
    (he : Q ⟨.fr, .list (ds.flatMap fun d => (f d).map (g d))⟩ s) : okE F C (.comp2 e tg k its tg1 k1 its1 [] own) s Q := by
  have hlk : lockL rs s = s := lockL_im hi s
  have hul : ∀ t, unlockL rs s t = t := by
    clear hI hd hs he hlk
    induction rs with
    | nil => intro t; rfl
    | cons r rs ih =>
      intro t
      simp only [List.all_cons, Bool.and_eq_true] at hi
      show unlockR r s (unlockL rs (lockR r s) t) = t
      rw [unlockR_im hi.1, lockR_im hi.1]
      exact ih hi.2 t
  refine l_comp2 hI hd hf (fun i acc t => t = s0 ∧ acc = (ds.take i).flatMap fun d => (f d).map (g d)) ⟨by rw [hlk]; exact hw, rfl⟩ ?_ ?_
  · rintro i acc t hi' ⟨rfl, rfl⟩
    have h := hs ds[i] (List.getElem_mem hi')
    unfold okT at h ⊢
    cases eb : bindT tg ds[i] t with
    | none => rw [eb] at h; exact h
    | some t1 =>
      rw [eb] at h
      obtain ⟨rs1, h1, h2, h3, h4, h5, h6, h7⟩ := h
      show okEL F C its1 t1 _
      unfold okEL
      rw [h1]
      have ht : ds.take (i + 1) = ds.take i ++ [ds[i]] := by rw [List.take_succ_eq_append_getElem hi']
      have hlen : ∀ j, j < (f ds[i]).length → (((ds.take i).flatMap fun d => (f d).map (g d)) ++ ((f ds[i]).take j).map (g ds[i])).length < 16777216 := by
        intro j hj
        have e1 : (ds.flatMap fun d => (f d).map (g d)) = ((ds.take i).flatMap fun d => (f d).map (g d)) ++ ((f ds[i]).map (g ds[i]) ++ ((ds.drop (i + 1)).flatMap fun d => (f d).map (g d))) := by
          conv => lhs; rw [← List.take_append_drop i ds, List.drop_eq_getElem_cons hi']
          rw [List.flatMap_append, List.flatMap_cons]
        rw [e1, List.length_append, List.length_append, List.length_map] at hl
        rw [List.length_append, List.length_map, List.length_take]
        omega
      refine ⟨h2, h4, f ds[i], h3, fun j acc t => t = wipeS t1 (tgIx tg1) ∧ acc = ((ds.take i).flatMap fun d => (f d).map (g d)) ++ ((f ds[i]).take j).map (g ds[i]), ⟨rfl, by simp⟩, ?_, ?_⟩
      · rintro j acc t hj ⟨rfl, rfl⟩
        have h := h7 (f ds[i])[j] (List.getElem_mem hj)
        unfold okT at h
        cases eb : bindT tg1 (f ds[i])[j] (wipeS t1 (tgIx tg1)) with
        | none => rw [eb] at h; exact h
        | some u =>
          rw [eb] at h
          show okC F C [] u _
          rw [w_c0]
          refine ⟨fun _ => okO.imp h fun r t3 h8 => ⟨h8.1, hlen j hj, h8.2.2.1, h8.2.2.2, ?_⟩, fun z => nomatch z⟩
          rw [List.take_succ_eq_append_getElem hj, List.map_append, List.append_assoc, h8.2.1]
          rfl
      · rintro acc t ⟨rfl, rfl⟩
        refine ⟨h5, h6, ?_⟩
        rw [ht, List.flatMap_append, List.take_length]
        simp
  · rintro acc t ⟨rfl, rfl⟩
    rw [hul, hb, List.take_length]
    exact he
end
end Ev

set_option autoImplicit false
/-! K01a: what k01's defs compute. -/
namespace Ev
open PySem
open L2 (atI ixN)
section
variable {F : Nat → Fn} {C : Nat → PyData}
def ir__law_common : List Sx := [.set 2 false (.cs (PyData.int 0)),
  .whl (.and (.cmp .lt (.nm 2) (.b1 .len (.nm 0))) (.and (.cmp .lt (.nm 2) (.b1 .len (.nm 1))) (.cmp .eq (.sub (.nm 0) (.nm 2)) (.sub (.nm 1) (.nm 2))))) [.set 2 false (.bin .add (.nm 2) (.cs (PyData.int 1)))],
  .ret (.nm 2)]
theorem lcommon_sem {a b : List Nat} (ha : a.length ≤ 1000000) (hb : b.length ≤ 1000000) : semOf F C 3 false false ir__law_common [.str (S a), .str (S b)] = some (.int (lcp a b), .none) := by
  refine sem_rt ?_
  unfold ir__law_common
  show okSL F C _ [.im (.str (S a)), .im (.str (S b)), .no] _
  have la := lenS (a := a) (by omega)
  have lb := lenS (a := b) (by omega)
  refine step (s1 := [.im (.str (S a)), .im (.str (S b)), .im (.int 0)]) (by simp only [sizeLine, List.length_cons, List.length_nil, Nat.zero_add, okSL, okS, okE, okEL, okC, okO, runL, run, eval, evalL, evalC, putR, binD, addD, cmpD, b1D, b2D, isiD, subD, lenD, itemsD, ltD, lockR, unlockR, putS, pinned, isIm, optI, setP1, setP2, setP3, at0, at1, at2, at3, at4, decide_eq_true_eq, decide_eq_false_iff_not, okT, bindT, eqInt, eqBool, eqStr, eqNone, List.getElem?_cons_zero, List.getElem?_cons_succ, List.set_cons_zero, List.set_cons_succ, Option.some.injEq, exists_eq_left', exists_eq_left, exists_eq_right, exists_eq_right', and_true, true_and, and_false, false_and, or_true, true_or, or_false, false_or, if_true, if_false, List.all_cons, List.all_nil, List.map_cons, List.map_nil, Bool.and_true, Bool.true_and, Bool.and_false, Bool.false_and, reduceCtorEq, ne_eq, not_true, not_false_eq_true, forall_const, PyData.bool.injEq, PyData.int.injEq, PyData.str.injEq, PyData.list.injEq, PyData.tuple.injEq, Bool.false_eq_true, Bool.not_true, Bool.not_false, decide_true, decide_false, eq_self, exists_eq, Bool.not_eq_true,  forall_eq', forall_eq, false_implies, true_implies, Option.map_some, Option.map_none, imp_self, implies_true, Bool.true_eq_false, Bool.true_or, Bool.or_true, Bool.false_or, Bool.or_false, ↓reduceIte, Int.reduceLT, Int.reduceLE, Int.reducePow, Int.reduceNeg, Int.reduceAdd, Int.reduceMul, Int.reduceSub, Int.reduceEq, Nat.reduceAdd, Nat.reducePow, Nat.reduceLT, Nat.reduceMul, Nat.reduceSub, Nat.reduceLeDiff, Nat.reduceEqDiff, and_self, or_self]) ?_
  generalize hst : ([.im (.str (S a)), .im (.str (S b)), .im (.int 0)] : Stt) = st
  refine stepN (Q0 := fun t => t = [.im (.str (S a)), .im (.str (S b)), .im (.int (lcp a b : Nat))]) ?_ ?_
  · refine w_whl (fun t => ∃ n : Nat, t = [.im (.str (S a)), .im (.str (S b)), .im (.int (n : Int))] ∧ n ≤ a.length ∧ n ≤ b.length ∧ ∀ j, j < n → a[j]? = b[j]?) (fun t => match t with
      | [_, _, .im (.int n)] => a.length - n.toNat
      | _ => 0) ⟨0, hst.symm, by omega, by omega, fun j hj => by omega⟩ ?_
    rintro t ⟨n, rfl, h1, h2, h3⟩
    by_cases p : n < a.length
    · have p' : (n : Int) < (a.length : Int) := by omega
      by_cases q : n < b.length
      · have q' : (n : Int) < (b.length : Int) := by omega
        have sa := subS (a := a) (i := n) (by omega) p
        have sb := subS (a := b) (i := n) (by omega) q
        by_cases h : a[n] = b[n]
        · simp only [sizeLine, List.length_cons, List.length_nil, Nat.zero_add, okSL, okS, okE, okEL, okC, okO, runL, run, eval, evalL, evalC, putR, binD, cmpD, b1D, b2D, isiD, ltD, lockR, unlockR, putS, pinned, isIm, optI, setP1, setP2, setP3, at0, at1, at2, at3, at4, decide_eq_true_eq, decide_eq_false_iff_not, okT, bindT, eqInt, eqBool, eqStr, eqNone, List.getElem?_cons_zero, List.getElem?_cons_succ, List.set_cons_zero, List.set_cons_succ, Option.some.injEq, exists_eq_left', exists_eq_left, exists_eq_right, exists_eq_right', and_true, true_and, and_false, false_and, or_true, true_or, or_false, false_or, if_true, if_false, List.all_cons, List.all_nil, List.map_cons, List.map_nil, Bool.and_true, Bool.true_and, Bool.and_false, Bool.false_and, reduceCtorEq, ne_eq, not_true, not_false_eq_true, forall_const, PyData.bool.injEq, PyData.int.injEq, PyData.str.injEq, PyData.list.injEq, PyData.tuple.injEq, Bool.false_eq_true, Bool.not_true, Bool.not_false, decide_true, decide_false, eq_self, exists_eq, Bool.not_eq_true,  forall_eq', forall_eq, false_implies, true_implies, Option.map_some, Option.map_none, imp_self, implies_true, Bool.true_eq_false, Bool.true_or, Bool.or_true, Bool.false_or, Bool.or_false, ↓reduceIte, Int.reduceLT, Int.reduceLE, Int.reducePow, Int.reduceNeg, Int.reduceAdd, Int.reduceMul, Int.reduceSub, Int.reduceEq, Nat.reduceAdd, Nat.reducePow, Nat.reduceLT, Nat.reduceMul, Nat.reduceSub, Nat.reduceLeDiff, Nat.reduceEqDiff, and_self, or_self, la, lb, sa, sb, S_eq, h, p', q', List.cons.injEq]
          refine ⟨⟨n + 1, rfl, p, q, fun j hj => ?_⟩, ?_⟩
          · rcases Nat.lt_or_eq_of_le (Nat.le_of_lt_succ hj) with z | rfl
            · exact h3 j z
            · rw [List.getElem?_eq_getElem p, List.getElem?_eq_getElem q, h]
          · show a.length - ((n : Int) + 1).toNat < a.length - (n : Int).toNat
            omega
        · have hl : lcp a b = n := lcp_uniq a b n (by omega) (by omega) h3 fun _ _ => by
            rw [List.getElem?_eq_getElem p, List.getElem?_eq_getElem q]
            simpa using h
          simp only [sizeLine, List.length_cons, List.length_nil, Nat.zero_add, okSL, okS, okE, okEL, okC, okO, runL, run, eval, evalL, evalC, putR, binD, cmpD, b1D, b2D, isiD, ltD, lockR, unlockR, putS, pinned, isIm, optI, setP1, setP2, setP3, at0, at1, at2, at3, at4, decide_eq_true_eq, decide_eq_false_iff_not, okT, bindT, eqInt, eqBool, eqStr, eqNone, List.getElem?_cons_zero, List.getElem?_cons_succ, List.set_cons_zero, List.set_cons_succ, Option.some.injEq, exists_eq_left', exists_eq_left, exists_eq_right, exists_eq_right', and_true, true_and, and_false, false_and, or_true, true_or, or_false, false_or, if_true, if_false, List.all_cons, List.all_nil, List.map_cons, List.map_nil, Bool.and_true, Bool.true_and, Bool.and_false, Bool.false_and, reduceCtorEq, ne_eq, not_true, not_false_eq_true, forall_const, PyData.bool.injEq, PyData.int.injEq, PyData.str.injEq, PyData.list.injEq, PyData.tuple.injEq, Bool.false_eq_true, Bool.not_true, Bool.not_false, decide_true, decide_false, eq_self, exists_eq, Bool.not_eq_true,  forall_eq', forall_eq, false_implies, true_implies, Option.map_some, Option.map_none, imp_self, implies_true, Bool.true_eq_false, Bool.true_or, Bool.or_true, Bool.false_or, Bool.or_false, ↓reduceIte, Int.reduceLT, Int.reduceLE, Int.reducePow, Int.reduceNeg, Int.reduceAdd, Int.reduceMul, Int.reduceSub, Int.reduceEq, Nat.reduceAdd, Nat.reducePow, Nat.reduceLT, Nat.reduceMul, Nat.reduceSub, Nat.reduceLeDiff, Nat.reduceEqDiff, and_self, or_self, la, lb, sa, sb, S_eq, h, p', q', hl, List.cons.injEq]
      · have q' : ¬ (n : Int) < (b.length : Int) := by omega
        have hl : lcp a b = n := lcp_uniq a b n (by omega) (by omega) h3 fun _ z => absurd z q
        simp only [sizeLine, List.length_cons, List.length_nil, Nat.zero_add, okSL, okS, okE, okEL, okC, okO, runL, run, eval, evalL, evalC, putR, binD, cmpD, b1D, b2D, isiD, ltD, lockR, unlockR, putS, pinned, isIm, optI, setP1, setP2, setP3, at0, at1, at2, at3, at4, decide_eq_true_eq, decide_eq_false_iff_not, okT, bindT, eqInt, eqBool, eqStr, eqNone, List.getElem?_cons_zero, List.getElem?_cons_succ, List.set_cons_zero, List.set_cons_succ, Option.some.injEq, exists_eq_left', exists_eq_left, exists_eq_right, exists_eq_right', and_true, true_and, and_false, false_and, or_true, true_or, or_false, false_or, if_true, if_false, List.all_cons, List.all_nil, List.map_cons, List.map_nil, Bool.and_true, Bool.true_and, Bool.and_false, Bool.false_and, reduceCtorEq, ne_eq, not_true, not_false_eq_true, forall_const, PyData.bool.injEq, PyData.int.injEq, PyData.str.injEq, PyData.list.injEq, PyData.tuple.injEq, Bool.false_eq_true, Bool.not_true, Bool.not_false, decide_true, decide_false, eq_self, exists_eq, Bool.not_eq_true,  forall_eq', forall_eq, false_implies, true_implies, Option.map_some, Option.map_none, imp_self, implies_true, Bool.true_eq_false, Bool.true_or, Bool.or_true, Bool.false_or, Bool.or_false, ↓reduceIte, Int.reduceLT, Int.reduceLE, Int.reducePow, Int.reduceNeg, Int.reduceAdd, Int.reduceMul, Int.reduceSub, Int.reduceEq, Nat.reduceAdd, Nat.reducePow, Nat.reduceLT, Nat.reduceMul, Nat.reduceSub, Nat.reduceLeDiff, Nat.reduceEqDiff, and_self, or_self, la, lb, p', q', hl]
    · have p' : ¬ (n : Int) < (a.length : Int) := by omega
      have hl : lcp a b = n := lcp_uniq a b n (by omega) (by omega) h3 fun z _ => absurd z p
      simp only [sizeLine, List.length_cons, List.length_nil, Nat.zero_add, okSL, okS, okE, okEL, okC, okO, runL, run, eval, evalL, evalC, putR, binD, cmpD, b1D, b2D, isiD, ltD, lockR, unlockR, putS, pinned, isIm, optI, setP1, setP2, setP3, at0, at1, at2, at3, at4, decide_eq_true_eq, decide_eq_false_iff_not, okT, bindT, eqInt, eqBool, eqStr, eqNone, List.getElem?_cons_zero, List.getElem?_cons_succ, List.set_cons_zero, List.set_cons_succ, Option.some.injEq, exists_eq_left', exists_eq_left, exists_eq_right, exists_eq_right', and_true, true_and, and_false, false_and, or_true, true_or, or_false, false_or, if_true, if_false, List.all_cons, List.all_nil, List.map_cons, List.map_nil, Bool.and_true, Bool.true_and, Bool.and_false, Bool.false_and, reduceCtorEq, ne_eq, not_true, not_false_eq_true, forall_const, PyData.bool.injEq, PyData.int.injEq, PyData.str.injEq, PyData.list.injEq, PyData.tuple.injEq, Bool.false_eq_true, Bool.not_true, Bool.not_false, decide_true, decide_false, eq_self, exists_eq, Bool.not_eq_true,  forall_eq', forall_eq, false_implies, true_implies, Option.map_some, Option.map_none, imp_self, implies_true, Bool.true_eq_false, Bool.true_or, Bool.or_true, Bool.false_or, Bool.or_false, ↓reduceIte, Int.reduceLT, Int.reduceLE, Int.reducePow, Int.reduceNeg, Int.reduceAdd, Int.reduceMul, Int.reduceSub, Int.reduceEq, Nat.reduceAdd, Nat.reducePow, Nat.reduceLT, Nat.reduceMul, Nat.reduceSub, Nat.reduceLeDiff, Nat.reduceEqDiff, and_self, or_self, la, lb, p', hl]
  · rintro t rfl
    refine stepR (f := .rt _) (by simp only [sizeLine, List.length_cons, List.length_nil, Nat.zero_add, okSL, okS, okE, okEL, okC, okO, runL, run, eval, evalL, evalC, putR, binD, addD, cmpD, b1D, b2D, isiD, subD, lenD, itemsD, ltD, lockR, unlockR, putS, pinned, isIm, optI, setP1, setP2, setP3, at0, at1, at2, at3, at4, decide_eq_true_eq, decide_eq_false_iff_not, okT, bindT, eqInt, eqBool, eqStr, eqNone, List.getElem?_cons_zero, List.getElem?_cons_succ, List.set_cons_zero, List.set_cons_succ, Option.some.injEq, exists_eq_left', exists_eq_left, exists_eq_right, exists_eq_right', and_true, true_and, and_false, false_and, or_true, true_or, or_false, false_or, if_true, if_false, List.all_cons, List.all_nil, List.map_cons, List.map_nil, Bool.and_true, Bool.true_and, Bool.and_false, Bool.false_and, reduceCtorEq, ne_eq, not_true, not_false_eq_true, forall_const, PyData.bool.injEq, PyData.int.injEq, PyData.str.injEq, PyData.list.injEq, PyData.tuple.injEq, Bool.false_eq_true, Bool.not_true, Bool.not_false, decide_true, decide_false, eq_self, exists_eq, Bool.not_eq_true,  forall_eq', forall_eq, false_implies, true_implies, Option.map_some, Option.map_none, imp_self, implies_true, Bool.true_eq_false, Bool.true_or, Bool.or_true, Bool.false_or, Bool.or_false, ↓reduceIte, Int.reduceLT, Int.reduceLE, Int.reducePow, Int.reduceNeg, Int.reduceAdd, Int.reduceMul, Int.reduceSub, Int.reduceEq, Nat.reduceAdd, Nat.reducePow, Nat.reduceLT, Nat.reduceMul, Nat.reduceSub, Nat.reduceLeDiff, Nat.reduceEqDiff, and_self, or_self]; rfl) (fun z => nomatch z) rfl
def ir_lead (f_common : Nat) : List Sx := [.set 2 false (.call f_common [(.nm 0), (.nm 1)]),
  .ret (.tup [(.slc (.nm 0) [(.nm 2)] []), (.slc (.nm 1) [(.nm 2)] [])])]
/-- a def of two texts that gives their common start -/
structure Cmn (F : Nat → Fn) (f : Nat) : Prop where
  io : (F f).io = false
  fr : (F f).fr = false
  sem : ∀ a b : List Nat, a.length ≤ 1000000 → b.length ≤ 1000000 → (F f).sem [.str (S a), .str (S b)] = some (.int (lcp a b), .none)
def leadD (a b : List Nat) : PyData := .tuple [.str (S (a.drop (lcp a b))), .str (S (b.drop (lcp a b)))]
theorem lead_sem {f : Nat} (hf : Cmn F f) {a b : List Nat} (ha : a.length ≤ 1000000) (hb : b.length ≤ 1000000) : semOf F C 3 false false (ir_lead f) [.str (S a), .str (S b)] = some (leadD a b, .none) := by
  refine sem_rt ?_
  unfold ir_lead
  show okSL F C _ [.im (.str (S a)), .im (.str (S b)), .no] _
  have h := hf.sem a b ha hb
  have ca := cutS_from (a := a) (n := lcp a b) (by omega) (lcp_le a b).1
  have cb := cutS_from (a := b) (n := lcp a b) (by omega) (lcp_le a b).2
  refine step (s1 := [.im (.str (S a)), .im (.str (S b)), .im (.int (lcp a b : Nat))]) (by simp only [sizeLine, List.length_cons, List.length_nil, Nat.zero_add, okSL, okS, okE, okEL, okC, okO, runL, run, eval, evalL, evalC, putR, binD, addD, cmpD, b1D, b2D, isiD, subD, lenD, itemsD, ltD, lockR, unlockR, putS, pinned, isIm, optI, setP1, setP2, setP3, at0, at1, at2, at3, at4, decide_eq_true_eq, decide_eq_false_iff_not, okT, bindT, eqInt, eqBool, eqStr, eqNone, List.getElem?_cons_zero, List.getElem?_cons_succ, List.set_cons_zero, List.set_cons_succ, Option.some.injEq, exists_eq_left', exists_eq_left, exists_eq_right, exists_eq_right', and_true, true_and, and_false, false_and, or_true, true_or, or_false, false_or, if_true, if_false, List.all_cons, List.all_nil, List.map_cons, List.map_nil, Bool.and_true, Bool.true_and, Bool.and_false, Bool.false_and, reduceCtorEq, ne_eq, not_true, not_false_eq_true, forall_const, PyData.bool.injEq, PyData.int.injEq, PyData.str.injEq, PyData.list.injEq, PyData.tuple.injEq, Bool.false_eq_true, Bool.not_true, Bool.not_false, decide_true, decide_false, eq_self, exists_eq, Bool.not_eq_true,  forall_eq', forall_eq, false_implies, true_implies, Option.map_some, Option.map_none, imp_self, implies_true, Bool.true_eq_false, Bool.true_or, Bool.or_true, Bool.false_or, Bool.or_false, ↓reduceIte, Int.reduceLT, Int.reduceLE, Int.reducePow, Int.reduceNeg, Int.reduceAdd, Int.reduceMul, Int.reduceSub, Int.reduceEq, Nat.reduceAdd, Nat.reducePow, Nat.reduceLT, Nat.reduceMul, Nat.reduceSub, Nat.reduceLeDiff, Nat.reduceEqDiff, and_self, or_self, h, hf.io, hf.fr]) ?_
  refine stepR (f := .rt _) (by simp only [sizeLine, List.length_cons, List.length_nil, Nat.zero_add, okSL, okS, okE, okEL, okC, okO, runL, run, eval, evalL, evalC, putR, binD, addD, cmpD, b1D, b2D, isiD, subD, lenD, itemsD, ltD, lockR, unlockR, putS, pinned, isIm, optI, setP1, setP2, setP3, at0, at1, at2, at3, at4, decide_eq_true_eq, decide_eq_false_iff_not, okT, bindT, eqInt, eqBool, eqStr, eqNone, List.getElem?_cons_zero, List.getElem?_cons_succ, List.set_cons_zero, List.set_cons_succ, Option.some.injEq, exists_eq_left', exists_eq_left, exists_eq_right, exists_eq_right', and_true, true_and, and_false, false_and, or_true, true_or, or_false, false_or, if_true, if_false, List.all_cons, List.all_nil, List.map_cons, List.map_nil, Bool.and_true, Bool.true_and, Bool.and_false, Bool.false_and, reduceCtorEq, ne_eq, not_true, not_false_eq_true, forall_const, PyData.bool.injEq, PyData.int.injEq, PyData.str.injEq, PyData.list.injEq, PyData.tuple.injEq, Bool.false_eq_true, Bool.not_true, Bool.not_false, decide_true, decide_false, eq_self, exists_eq, Bool.not_eq_true,  forall_eq', forall_eq, false_implies, true_implies, Option.map_some, Option.map_none, imp_self, implies_true, Bool.true_eq_false, Bool.true_or, Bool.or_true, Bool.false_or, Bool.or_false, ↓reduceIte, Int.reduceLT, Int.reduceLE, Int.reducePow, Int.reduceNeg, Int.reduceAdd, Int.reduceMul, Int.reduceSub, Int.reduceEq, Nat.reduceAdd, Nat.reducePow, Nat.reduceLT, Nat.reduceMul, Nat.reduceSub, Nat.reduceLeDiff, Nat.reduceEqDiff, and_self, or_self, ca, cb]; rfl) (fun z => nomatch z) rfl
structure Led (F : Nat → Fn) (f : Nat) : Prop where
  io : (F f).io = false
  fr : (F f).fr = false
  sem : ∀ a b : List Nat, a.length ≤ 1000000 → b.length ≤ 1000000 → (F f).sem [.str (S a), .str (S b)] = some (leadD a b, .none)
def ir_moved (f_lead : Nat) : List Sx := [.ret (.call f_lead [(.bin .add (.sub (.nm 0) (.cs (PyData.int 0))) (.nm 1)), (.bin .add (.sub (.nm 0) (.cs (PyData.int 1))) (.nm 2))])]
theorem moved_sem {f : Nat} (hf : Led F f) {x y a b : List Nat} (ha : x.length + a.length ≤ 1000000) (hb : y.length + b.length ≤ 1000000) : semOf F C 3 false false (ir_moved f) [.tuple [.str (S x), .str (S y)], .str (S a), .str (S b)] = some (leadD (x ++ a) (y ++ b), .none) := by
  refine sem_rt ?_
  unfold ir_moved
  show okSL F C _ [.im (.tuple [.str (S x), .str (S y)]), .im (.str (S a)), .im (.str (S b))] _
  have h := hf.sem (x ++ a) (y ++ b) (by rw [List.length_append]; omega) (by rw [List.length_append]; omega)
  have ea := addS (a := x) (b := a) (by omega)
  have eb := addS (a := y) (b := b) (by omega)
  refine stepR (f := .rt (leadD (x ++ a) (y ++ b))) (s1 := [.im (.tuple [.str (S x), .str (S y)]), .im (.str (S a)), .im (.str (S b))]) (by simp only [sizeLine, List.length_cons, List.length_nil, Nat.zero_add, okSL, okS, okE, okEL, okC, okO, runL, run, eval, evalL, evalC, putR, binD, cmpD, b1D, b2D, isiD, subD, itemsD, lockR, unlockR, putS, pinned, isIm, optI, setP1, setP2, setP3, at0, at1, at2, at3, at4, decide_eq_true_eq, decide_eq_false_iff_not, okT, bindT, eqInt, eqBool, eqStr, eqNone, List.getElem?_cons_zero, List.getElem?_cons_succ, List.set_cons_zero, List.set_cons_succ, Option.some.injEq, exists_eq_left', exists_eq_left, exists_eq_right, exists_eq_right', and_true, true_and, and_false, false_and, or_true, true_or, or_false, false_or, if_true, if_false, List.all_cons, List.all_nil, List.map_cons, List.map_nil, Bool.and_true, Bool.true_and, Bool.and_false, Bool.false_and, reduceCtorEq, ne_eq, not_true, not_false_eq_true, forall_const, PyData.bool.injEq, PyData.int.injEq, PyData.str.injEq, PyData.list.injEq, PyData.tuple.injEq, Bool.false_eq_true, Bool.not_true, Bool.not_false, decide_true, decide_false, eq_self, exists_eq, Bool.not_eq_true,  forall_eq', forall_eq, false_implies, true_implies, Option.map_some, Option.map_none, imp_self, implies_true, Bool.true_eq_false, Bool.true_or, Bool.or_true, Bool.false_or, Bool.or_false, ↓reduceIte, Int.reduceLT, Int.reduceLE, Int.reducePow, Int.reduceNeg, Int.reduceAdd, Int.reduceMul, Int.reduceSub, Int.reduceEq, Nat.reduceAdd, Nat.reducePow, Nat.reduceLT, Nat.reduceMul, Nat.reduceSub, Nat.reduceLeDiff, Nat.reduceEqDiff, and_self, or_self, at0, at1, ea, eb, h, hf.io, hf.fr]) (fun z => nomatch z) rfl
/-- what one is ahead by, moved on by letters: the same as from the beginning -/
theorem moved_lead {one two u v : List Nat} : leadD (one.drop (lcp one two) ++ u) (two.drop (lcp one two) ++ v) = leadD (one ++ u) (two ++ v) := by
  have e1 : one ++ u = one.take (lcp one two) ++ (one.drop (lcp one two) ++ u) := by rw [← List.append_assoc, List.take_append_drop]
  have e2 : two ++ v = one.take (lcp one two) ++ (two.drop (lcp one two) ++ v) := by rw [← List.append_assoc, lcp_take, List.take_append_drop]
  have e3 := lcp_app (one.take (lcp one two)) (one.drop (lcp one two) ++ u) (two.drop (lcp one two) ++ v)
  unfold leadD
  rw [e1, e2, e3, ← List.drop_drop, ← List.drop_drop, List.drop_left, List.drop_left]
def ir_is_clash : List Sx := [.ret (.and (.cmp .ne (.sub (.nm 0) (.cs (PyData.int 0))) (.cs (PyData.str (S [])))) (.cmp .ne (.sub (.nm 0) (.cs (PyData.int 1))) (.cs (PyData.str (S [])))))]
theorem clash_sem {x y : List Nat} : semOf F C 1 false false ir_is_clash [.tuple [.str (S x), .str (S y)]] = some (.bool (!decide (x = []) && !decide (y = [])), .none) := by
  refine sem_rt ?_
  unfold ir_is_clash
  show okSL F C _ [.im (.tuple [.str (S x), .str (S y)])] _
  by_cases hx : x = [] <;> by_cases hy : y = []
  all_goals simp only [sizeLine, List.length_cons, List.length_nil, Nat.zero_add, okSL, okS, okE, okEL, okC, okO, runL, run, eval, evalL, evalC, putR, binD, addD, cmpD, b1D, b2D, isiD, subD, lenD, itemsD, ltD, lockR, unlockR, putS, pinned, isIm, optI, setP1, setP2, setP3, at0, at1, at2, at3, at4, decide_eq_true_eq, decide_eq_false_iff_not, okT, bindT, eqInt, eqBool, eqStr, eqNone, List.getElem?_cons_zero, List.getElem?_cons_succ, List.set_cons_zero, List.set_cons_succ, Option.some.injEq, exists_eq_left', exists_eq_left, exists_eq_right, exists_eq_right', and_true, true_and, and_false, false_and, or_true, true_or, or_false, false_or, if_true, if_false, List.all_cons, List.all_nil, List.map_cons, List.map_nil, Bool.and_true, Bool.true_and, Bool.and_false, Bool.false_and, reduceCtorEq, ne_eq, not_true, not_false_eq_true, forall_const, PyData.bool.injEq, PyData.int.injEq, PyData.str.injEq, PyData.list.injEq, PyData.tuple.injEq, Bool.false_eq_true, Bool.not_true, Bool.not_false, decide_true, decide_false, eq_self, exists_eq, Bool.not_eq_true,  forall_eq', forall_eq, false_implies, true_implies, Option.map_some, Option.map_none, imp_self, implies_true, Bool.true_eq_false, Bool.true_or, Bool.or_true, Bool.false_or, Bool.or_false, ↓reduceIte, Int.reduceLT, Int.reduceLE, Int.reducePow, Int.reduceNeg, Int.reduceAdd, Int.reduceMul, Int.reduceSub, Int.reduceEq, Nat.reduceAdd, Nat.reducePow, Nat.reduceLT, Nat.reduceMul, Nat.reduceSub, Nat.reduceLeDiff, Nat.reduceEqDiff, and_self, or_self, S_eq, hx, hy]
def befB (a b : List Nat) : Bool := if a.length = b.length then decide (a < b) else decide (a.length < b.length)
theorem befB_self (a : List Nat) : befB a a = false := by
  unfold befB
  rw [if_pos rfl]
  exact decide_eq_false (List.lt_irrefl a)
theorem ltPair {a b : List Nat} : ltD (.tuple [.int (a.length : Int), .str (S a)]) (.tuple [.int (b.length : Int), .str (S b)]) = some (befB a b) := by
  have h : ltD (.tuple [.int (a.length : Int), .str (S a)]) (.tuple [.int (b.length : Int), .str (S b)]) = some (PySem.W.dataLt (.tuple [.int (a.length : Int), .str (S a)]) (.tuple [.int (b.length : Int), .str (S b)])) := by
    simp only [ltD]
    exact if_pos rfl
  rw [h, PySem.W.dataLt_pair rfl rfl, PySem.W.dataLt_int, PySem.W.dataLt_str, S_cps, S_cps]
  unfold befB
  have e1 : (PyData.eqv (.int (a.length : Int)) (.int (b.length : Int)) = true) ↔ a.length = b.length := by
    simp only [PyData.eqv, beq_iff_eq, decide_eq_true_eq]
    omega
  have e2 : (PyData.eqv (.str (S a)) (.str (S b)) = true) ↔ a = b := by simp [PyData.eqv, S_eq]
  by_cases h1 : a.length = b.length
  · rw [if_pos (e1.mpr h1), if_pos h1]
    by_cases h2 : a = b
    · rw [if_pos (e2.mpr h2)]
      subst h2
      rw [decide_eq_false (List.lt_irrefl a)]
    · rw [if_neg (fun z => h2 (e2.mp z))]
  · rw [if_neg (fun z => h1 (e1.mp z)), if_neg h1]
    congr 1
    rw [decide_eq_decide]
    omega
def ir_before : List Sx := [.ret (.cmp .lt (.tup [(.b1 .len (.nm 0)), (.nm 0)]) (.tup [(.b1 .len (.nm 1)), (.nm 1)]))]
theorem before_sem {a b : List Nat} (ha : a.length ≤ 1000000) (hb : b.length ≤ 1000000) : semOf F C 2 false false ir_before [.str (S a), .str (S b)] = some (.bool (befB a b), .none) := by
  refine sem_rt ?_
  unfold ir_before
  show okSL F C _ [.im (.str (S a)), .im (.str (S b))] _
  have la := lenS (a := a) (by omega)
  have lb := lenS (a := b) (by omega)
  refine stepR (f := .rt (.bool (befB a b))) (s1 := [.im (.str (S a)), .im (.str (S b))]) (by simp only [sizeLine, List.length_cons, List.length_nil, Nat.zero_add, okSL, okS, okE, okEL, okC, okO, runL, run, eval, evalL, evalC, putR, binD, cmpD, b1D, b2D, isiD, subD, itemsD, lockR, unlockR, putS, pinned, isIm, optI, setP1, setP2, setP3, at0, at1, at2, at3, at4, decide_eq_true_eq, decide_eq_false_iff_not, okT, bindT, eqInt, eqBool, eqStr, eqNone, List.getElem?_cons_zero, List.getElem?_cons_succ, List.set_cons_zero, List.set_cons_succ, Option.some.injEq, exists_eq_left', exists_eq_left, exists_eq_right, exists_eq_right', and_true, true_and, and_false, false_and, or_true, true_or, or_false, false_or, if_true, if_false, List.all_cons, List.all_nil, List.map_cons, List.map_nil, Bool.and_true, Bool.true_and, Bool.and_false, Bool.false_and, reduceCtorEq, ne_eq, not_true, not_false_eq_true, forall_const, PyData.bool.injEq, PyData.int.injEq, PyData.str.injEq, PyData.list.injEq, PyData.tuple.injEq, Bool.false_eq_true, Bool.not_true, Bool.not_false, decide_true, decide_false, eq_self, exists_eq, Bool.not_eq_true,  forall_eq', forall_eq, false_implies, true_implies, Option.map_some, Option.map_none, imp_self, implies_true, Bool.true_eq_false, Bool.true_or, Bool.or_true, Bool.false_or, Bool.or_false, ↓reduceIte, Int.reduceLT, Int.reduceLE, Int.reducePow, Int.reduceNeg, Int.reduceAdd, Int.reduceMul, Int.reduceSub, Int.reduceEq, Nat.reduceAdd, Nat.reducePow, Nat.reduceLT, Nat.reduceMul, Nat.reduceSub, Nat.reduceLeDiff, Nat.reduceEqDiff, and_self, or_self, la, lb, ltPair]) (fun z => nomatch z) rfl
def ir__law_before : List Sx := [.ret (.or (.cmp .lt (.b1 .len (.nm 0)) (.b1 .len (.nm 1))) (.and (.cmp .eq (.b1 .len (.nm 0)) (.b1 .len (.nm 1))) (.cmp .lt (.nm 0) (.nm 1))))]
theorem ltStr {a b : List Nat} : ltD (.str (S a)) (.str (S b)) = some (decide (a < b)) := by
  simp only [ltD, S_cps]
theorem lbefore_sem {a b : List Nat} (ha : a.length ≤ 1000000) (hb : b.length ≤ 1000000) : semOf F C 2 false false ir__law_before [.str (S a), .str (S b)] = some (.bool (befB a b), .none) := by
  refine sem_rt ?_
  unfold ir__law_before
  show okSL F C _ [.im (.str (S a)), .im (.str (S b))] _
  have la := lenS (a := a) (by omega)
  have lb := lenS (a := b) (by omega)
  have li : ∀ i j : Int, ltD (.int i) (.int j) = some (decide (i < j)) := fun _ _ => rfl
  unfold befB
  by_cases h1 : a.length = b.length
  · have p : ¬ (a.length : Int) < (b.length : Int) := by omega
    have q : (a.length : Int) = (b.length : Int) := by omega
    have r : (if a.length = b.length then decide (a < b) else decide (a.length < b.length)) = decide (a < b) := if_pos h1
    rw [r]
    have p2 : ¬ (b.length : Int) < (b.length : Int) := by omega
    simp only [sizeLine, List.length_cons, List.length_nil, Nat.zero_add, okSL, okS, okE, okEL, okC, okO, runL, run, eval, evalL, evalC, putR, binD, cmpD, b1D, b2D, isiD, subD, itemsD, lockR, unlockR, putS, pinned, isIm, optI, setP1, setP2, setP3, at0, at1, at2, at3, at4, decide_eq_true_eq, decide_eq_false_iff_not, okT, bindT, eqInt, eqBool, eqStr, eqNone, List.getElem?_cons_zero, List.getElem?_cons_succ, List.set_cons_zero, List.set_cons_succ, Option.some.injEq, exists_eq_left', exists_eq_left, exists_eq_right, exists_eq_right', and_true, true_and, and_false, false_and, or_true, true_or, or_false, false_or, if_true, if_false, List.all_cons, List.all_nil, List.map_cons, List.map_nil, Bool.and_true, Bool.true_and, Bool.and_false, Bool.false_and, reduceCtorEq, ne_eq, not_true, not_false_eq_true, forall_const, PyData.bool.injEq, PyData.int.injEq, PyData.str.injEq, PyData.list.injEq, PyData.tuple.injEq, Bool.false_eq_true, Bool.not_true, Bool.not_false, decide_true, decide_false, eq_self, exists_eq, Bool.not_eq_true,  forall_eq', forall_eq, false_implies, true_implies, Option.map_some, Option.map_none, imp_self, implies_true, Bool.true_eq_false, Bool.true_or, Bool.or_true, Bool.false_or, Bool.or_false, ↓reduceIte, Int.reduceLT, Int.reduceLE, Int.reducePow, Int.reduceNeg, Int.reduceAdd, Int.reduceMul, Int.reduceSub, Int.reduceEq, Nat.reduceAdd, Nat.reducePow, Nat.reduceLT, Nat.reduceMul, Nat.reduceSub, Nat.reduceLeDiff, Nat.reduceEqDiff, and_self, or_self, la, lb, ltStr, li, p2, q]
  · have q : ¬ (a.length : Int) = (b.length : Int) := by omega
    by_cases h2 : a.length < b.length
    · have p : (a.length : Int) < (b.length : Int) := by omega
      simp only [sizeLine, List.length_cons, List.length_nil, Nat.zero_add, okSL, okS, okE, okEL, okC, okO, runL, run, eval, evalL, evalC, putR, binD, cmpD, b1D, b2D, isiD, subD, itemsD, lockR, unlockR, putS, pinned, isIm, optI, setP1, setP2, setP3, at0, at1, at2, at3, at4, decide_eq_true_eq, decide_eq_false_iff_not, okT, bindT, eqInt, eqBool, eqStr, eqNone, List.getElem?_cons_zero, List.getElem?_cons_succ, List.set_cons_zero, List.set_cons_succ, Option.some.injEq, exists_eq_left', exists_eq_left, exists_eq_right, exists_eq_right', and_true, true_and, and_false, false_and, or_true, true_or, or_false, false_or, if_true, if_false, List.all_cons, List.all_nil, List.map_cons, List.map_nil, Bool.and_true, Bool.true_and, Bool.and_false, Bool.false_and, reduceCtorEq, ne_eq, not_true, not_false_eq_true, forall_const, PyData.bool.injEq, PyData.int.injEq, PyData.str.injEq, PyData.list.injEq, PyData.tuple.injEq, Bool.false_eq_true, Bool.not_true, Bool.not_false, decide_true, decide_false, eq_self, exists_eq, Bool.not_eq_true,  forall_eq', forall_eq, false_implies, true_implies, Option.map_some, Option.map_none, imp_self, implies_true, Bool.true_eq_false, Bool.true_or, Bool.or_true, Bool.false_or, Bool.or_false, ↓reduceIte, Int.reduceLT, Int.reduceLE, Int.reducePow, Int.reduceNeg, Int.reduceAdd, Int.reduceMul, Int.reduceSub, Int.reduceEq, Nat.reduceAdd, Nat.reducePow, Nat.reduceLT, Nat.reduceMul, Nat.reduceSub, Nat.reduceLeDiff, Nat.reduceEqDiff, and_self, or_self, la, lb, ltStr, li, p, h1, h2, q]
    · have p : ¬ (a.length : Int) < (b.length : Int) := by omega
      have r : (if a.length = b.length then decide (a < b) else decide (a.length < b.length)) = false := by rw [if_neg h1]; exact decide_eq_false h2
      rw [r]
      simp only [sizeLine, List.length_cons, List.length_nil, Nat.zero_add, okSL, okS, okE, okEL, okC, okO, runL, run, eval, evalL, evalC, putR, binD, cmpD, b1D, b2D, isiD, subD, itemsD, lockR, unlockR, putS, pinned, isIm, optI, setP1, setP2, setP3, at0, at1, at2, at3, at4, decide_eq_true_eq, decide_eq_false_iff_not, okT, bindT, eqInt, eqBool, eqStr, eqNone, List.getElem?_cons_zero, List.getElem?_cons_succ, List.set_cons_zero, List.set_cons_succ, Option.some.injEq, exists_eq_left', exists_eq_left, exists_eq_right, exists_eq_right', and_true, true_and, and_false, false_and, or_true, true_or, or_false, false_or, if_true, if_false, List.all_cons, List.all_nil, List.map_cons, List.map_nil, Bool.and_true, Bool.true_and, Bool.and_false, Bool.false_and, reduceCtorEq, ne_eq, not_true, not_false_eq_true, forall_const, PyData.bool.injEq, PyData.int.injEq, PyData.str.injEq, PyData.list.injEq, PyData.tuple.injEq, Bool.false_eq_true, Bool.not_true, Bool.not_false, decide_true, decide_false, eq_self, exists_eq, Bool.not_eq_true,  forall_eq', forall_eq, false_implies, true_implies, Option.map_some, Option.map_none, imp_self, implies_true, Bool.true_eq_false, Bool.true_or, Bool.or_true, Bool.false_or, Bool.or_false, ↓reduceIte, Int.reduceLT, Int.reduceLE, Int.reducePow, Int.reduceNeg, Int.reduceAdd, Int.reduceMul, Int.reduceSub, Int.reduceEq, Nat.reduceAdd, Nat.reducePow, Nat.reduceLT, Nat.reduceMul, Nat.reduceSub, Nat.reduceLeDiff, Nat.reduceEqDiff, and_self, or_self, la, lb, ltStr, li, p, q]
end
end Ev

set_option autoImplicit false
/-! K01b: what k01's defs compute: words. -/
namespace Ev
open PySem
open L2 (atI ixN)
section
variable {F : Nat → Fn} {C : Nat → PyData}
def abc : PyData := .str (S [97, 98, 99])
/-- a sign of a text is one of the letters -/
def inb (d : PyData) : Bool := (inD d abc).getD false
theorem inAbc {c : Nat} : inD (.str ⟨#[c]⟩) abc = some (inb (.str ⟨#[c]⟩)) := by
  unfold inb abc
  rfl
def chars (x : Str) : List PyData := x.cps.toList.map fun c => .str ⟨#[c]⟩
def wordB : PyData → Bool
  | .str x => (chars x).all inb
  | _ => false
/-- a text is short enough -/
def Shrt (d : PyData) : Prop := ∀ x, d = .str x → x.length ≤ 1000000
theorem bools_map {l : List PyData} {g : PyData → Bool} : boolsD (l.map fun d => .bool (g d)) = some (l.map g) := by
  induction l with
  | nil => rfl
  | cons a l ih => simp only [List.map_cons, boolsD, ih, Option.map_some]
theorem chars_len {x : Str} : (chars x).length = x.length := by simp [chars, Str.length]
def ir_is_word (g_LETTERS : Nat) : List Sx := [.ret (.and (.isi (.nm 0) .str) (.b1 .all (.comp (.cmp .«in» (.nm 1) (.gl g_LETTERS)) (.n 1) .ex [(.nm 0)] [] [("sign", 1)])))]
theorem is_word_sem {g : Nat} (hg : C g = abc) {d : PyData} (hd : Shrt d) : semOf F C 2 false false (ir_is_word g) [d] = some (.bool (wordB d), .none) := by
  refine sem_rt ?_
  unfold ir_is_word
  show okSL F C _ [.im d, .no] _
  cases d with
  | str x =>
    have hx := hd x rfl
    have e1 : evalL F C [.nm 0] [.im (.str x), .no] = some ([⟨.im, .str x⟩], [.im (.str x), .no]) := by simp only [sizeLine, List.length_cons, List.length_nil, Nat.zero_add, okSL, okS, okE, okEL, okC, okO, runL, run, eval, evalL, evalC, putR, binD, addD, cmpD, b1D, b2D, isiD, subD, lenD, itemsD, ltD, lockR, unlockR, putS, pinned, isIm, optI, setP1, setP2, setP3, at0, at1, at2, at3, at4, decide_eq_true_eq, decide_eq_false_iff_not, okT, bindT, eqInt, eqBool, eqStr, eqNone, List.getElem?_cons_zero, List.getElem?_cons_succ, List.set_cons_zero, List.set_cons_succ, Option.some.injEq, exists_eq_left', exists_eq_left, exists_eq_right, exists_eq_right', and_true, true_and, and_false, false_and, or_true, true_or, or_false, false_or, if_true, if_false, List.all_cons, List.all_nil, List.map_cons, List.map_nil, Bool.and_true, Bool.true_and, Bool.and_false, Bool.false_and, reduceCtorEq, ne_eq, not_true, not_false_eq_true, forall_const, PyData.bool.injEq, PyData.int.injEq, PyData.str.injEq, PyData.list.injEq, PyData.tuple.injEq, Bool.false_eq_true, Bool.not_true, Bool.not_false, decide_true, decide_false, eq_self, exists_eq, Bool.not_eq_true,  forall_eq', forall_eq, false_implies, true_implies, Option.map_some, Option.map_none, imp_self, implies_true, Bool.true_eq_false, Bool.true_or, Bool.or_true, Bool.false_or, Bool.or_false, ↓reduceIte, Int.reduceLT, Int.reduceLE, Int.reducePow, Int.reduceNeg, Int.reduceAdd, Int.reduceMul, Int.reduceSub, Int.reduceEq, Nat.reduceAdd, Nat.reducePow, Nat.reduceLT, Nat.reduceMul, Nat.reduceSub, Nat.reduceLeDiff, Nat.reduceEqDiff, and_self, or_self]
    have e2 : itD .ex [⟨.im, .str x⟩] = some (chars x) := rfl
    rw [w_seq, w_ret, w_and, w_isi, w_nm]
    simp only [List.getElem?_cons_zero, isiD]
    refine ⟨true, rfl, fun _ => ?_, fun z => nomatch z⟩
    rw [w_b1]
    generalize hst : ([.im (.str x), .no] : Stt) = st at e1 ⊢
    refine p_comp (s0 := st) (fun _ => true) (fun d => .bool (inb d)) e1 rfl e2 (by rw [chars_len]; omega) (by subst hst; rfl) (by subst hst; rfl) (by subst hst; rfl) ?_ ?_
    · intro d hd
      obtain ⟨c, _, rfl⟩ := List.mem_map.mp hd
      subst hst
      simp only [sizeLine, List.length_cons, List.length_nil, Nat.zero_add, okSL, okS, okE, okEL, okC, okO, runL, run, eval, evalL, evalC, putR, binD, addD, cmpD, b1D, b2D, isiD, subD, lenD, itemsD, ltD, lockR, unlockR, putS, pinned, isIm, optI, setP1, setP2, setP3, at0, at1, at2, at3, at4, decide_eq_true_eq, decide_eq_false_iff_not, okT, bindT, eqInt, eqBool, eqStr, eqNone, List.getElem?_cons_zero, List.getElem?_cons_succ, List.set_cons_zero, List.set_cons_succ, Option.some.injEq, exists_eq_left', exists_eq_left, exists_eq_right, exists_eq_right', and_true, true_and, and_false, false_and, or_true, true_or, or_false, false_or, if_true, if_false, List.all_cons, List.all_nil, List.map_cons, List.map_nil, Bool.and_true, Bool.true_and, Bool.and_false, Bool.false_and, reduceCtorEq, ne_eq, not_true, not_false_eq_true, forall_const, PyData.bool.injEq, PyData.int.injEq, PyData.str.injEq, PyData.list.injEq, PyData.tuple.injEq, Bool.false_eq_true, Bool.not_true, Bool.not_false, decide_true, decide_false, eq_self, exists_eq, Bool.not_eq_true,  forall_eq', forall_eq, false_implies, true_implies, Option.map_some, Option.map_none, imp_self, implies_true, Bool.true_eq_false, Bool.true_or, Bool.or_true, Bool.false_or, Bool.or_false, ↓reduceIte, Int.reduceLT, Int.reduceLE, Int.reducePow, Int.reduceNeg, Int.reduceAdd, Int.reduceMul, Int.reduceSub, Int.reduceEq, Nat.reduceAdd, Nat.reducePow, Nat.reduceLT, Nat.reduceMul, Nat.reduceSub, Nat.reduceLeDiff, Nat.reduceEqDiff, and_self, or_self, hg, inAbc]
      exact ⟨rfl, rfl⟩
    · refine ⟨⟨.im, .bool ((chars x).all inb)⟩, ?_, _, rfl, rfl, (fun z => nomatch z), fun _ => rfl⟩
      show b1D .all (.list (((chars x).filter fun _ => true).map fun d => .bool (inb d))) = _
      rw [show ((chars x).filter fun _ => true) = chars x from List.filter_eq_self.mpr fun _ _ => rfl]
      simp only [b1D, bools_map, Option.map_some, List.all_map]
      rfl
  | none => simp only [sizeLine, List.length_cons, List.length_nil, Nat.zero_add, okSL, okS, okE, okEL, okC, okO, runL, run, eval, evalL, evalC, putR, binD, addD, cmpD, b1D, b2D, isiD, subD, lenD, itemsD, ltD, lockR, unlockR, putS, pinned, isIm, optI, setP1, setP2, setP3, at0, at1, at2, at3, at4, decide_eq_true_eq, decide_eq_false_iff_not, okT, bindT, eqInt, eqBool, eqStr, eqNone, List.getElem?_cons_zero, List.getElem?_cons_succ, List.set_cons_zero, List.set_cons_succ, Option.some.injEq, exists_eq_left', exists_eq_left, exists_eq_right, exists_eq_right', and_true, true_and, and_false, false_and, or_true, true_or, or_false, false_or, if_true, if_false, List.all_cons, List.all_nil, List.map_cons, List.map_nil, Bool.and_true, Bool.true_and, Bool.and_false, Bool.false_and, reduceCtorEq, ne_eq, not_true, not_false_eq_true, forall_const, PyData.bool.injEq, PyData.int.injEq, PyData.str.injEq, PyData.list.injEq, PyData.tuple.injEq, Bool.false_eq_true, Bool.not_true, Bool.not_false, decide_true, decide_false, eq_self, exists_eq, Bool.not_eq_true,  forall_eq', forall_eq, false_implies, true_implies, Option.map_some, Option.map_none, imp_self, implies_true, Bool.true_eq_false, Bool.true_or, Bool.or_true, Bool.false_or, Bool.or_false, ↓reduceIte, Int.reduceLT, Int.reduceLE, Int.reducePow, Int.reduceNeg, Int.reduceAdd, Int.reduceMul, Int.reduceSub, Int.reduceEq, Nat.reduceAdd, Nat.reducePow, Nat.reduceLT, Nat.reduceMul, Nat.reduceSub, Nat.reduceLeDiff, Nat.reduceEqDiff, and_self, or_self]; rfl
  | bool _ => simp only [sizeLine, List.length_cons, List.length_nil, Nat.zero_add, okSL, okS, okE, okEL, okC, okO, runL, run, eval, evalL, evalC, putR, binD, addD, cmpD, b1D, b2D, isiD, subD, lenD, itemsD, ltD, lockR, unlockR, putS, pinned, isIm, optI, setP1, setP2, setP3, at0, at1, at2, at3, at4, decide_eq_true_eq, decide_eq_false_iff_not, okT, bindT, eqInt, eqBool, eqStr, eqNone, List.getElem?_cons_zero, List.getElem?_cons_succ, List.set_cons_zero, List.set_cons_succ, Option.some.injEq, exists_eq_left', exists_eq_left, exists_eq_right, exists_eq_right', and_true, true_and, and_false, false_and, or_true, true_or, or_false, false_or, if_true, if_false, List.all_cons, List.all_nil, List.map_cons, List.map_nil, Bool.and_true, Bool.true_and, Bool.and_false, Bool.false_and, reduceCtorEq, ne_eq, not_true, not_false_eq_true, forall_const, PyData.bool.injEq, PyData.int.injEq, PyData.str.injEq, PyData.list.injEq, PyData.tuple.injEq, Bool.false_eq_true, Bool.not_true, Bool.not_false, decide_true, decide_false, eq_self, exists_eq, Bool.not_eq_true,  forall_eq', forall_eq, false_implies, true_implies, Option.map_some, Option.map_none, imp_self, implies_true, Bool.true_eq_false, Bool.true_or, Bool.or_true, Bool.false_or, Bool.or_false, ↓reduceIte, Int.reduceLT, Int.reduceLE, Int.reducePow, Int.reduceNeg, Int.reduceAdd, Int.reduceMul, Int.reduceSub, Int.reduceEq, Nat.reduceAdd, Nat.reducePow, Nat.reduceLT, Nat.reduceMul, Nat.reduceSub, Nat.reduceLeDiff, Nat.reduceEqDiff, and_self, or_self]; rfl
  | int _ => simp only [sizeLine, List.length_cons, List.length_nil, Nat.zero_add, okSL, okS, okE, okEL, okC, okO, runL, run, eval, evalL, evalC, putR, binD, addD, cmpD, b1D, b2D, isiD, subD, lenD, itemsD, ltD, lockR, unlockR, putS, pinned, isIm, optI, setP1, setP2, setP3, at0, at1, at2, at3, at4, decide_eq_true_eq, decide_eq_false_iff_not, okT, bindT, eqInt, eqBool, eqStr, eqNone, List.getElem?_cons_zero, List.getElem?_cons_succ, List.set_cons_zero, List.set_cons_succ, Option.some.injEq, exists_eq_left', exists_eq_left, exists_eq_right, exists_eq_right', and_true, true_and, and_false, false_and, or_true, true_or, or_false, false_or, if_true, if_false, List.all_cons, List.all_nil, List.map_cons, List.map_nil, Bool.and_true, Bool.true_and, Bool.and_false, Bool.false_and, reduceCtorEq, ne_eq, not_true, not_false_eq_true, forall_const, PyData.bool.injEq, PyData.int.injEq, PyData.str.injEq, PyData.list.injEq, PyData.tuple.injEq, Bool.false_eq_true, Bool.not_true, Bool.not_false, decide_true, decide_false, eq_self, exists_eq, Bool.not_eq_true,  forall_eq', forall_eq, false_implies, true_implies, Option.map_some, Option.map_none, imp_self, implies_true, Bool.true_eq_false, Bool.true_or, Bool.or_true, Bool.false_or, Bool.or_false, ↓reduceIte, Int.reduceLT, Int.reduceLE, Int.reducePow, Int.reduceNeg, Int.reduceAdd, Int.reduceMul, Int.reduceSub, Int.reduceEq, Nat.reduceAdd, Nat.reducePow, Nat.reduceLT, Nat.reduceMul, Nat.reduceSub, Nat.reduceLeDiff, Nat.reduceEqDiff, and_self, or_self]; rfl
  | list _ => simp only [sizeLine, List.length_cons, List.length_nil, Nat.zero_add, okSL, okS, okE, okEL, okC, okO, runL, run, eval, evalL, evalC, putR, binD, addD, cmpD, b1D, b2D, isiD, subD, lenD, itemsD, ltD, lockR, unlockR, putS, pinned, isIm, optI, setP1, setP2, setP3, at0, at1, at2, at3, at4, decide_eq_true_eq, decide_eq_false_iff_not, okT, bindT, eqInt, eqBool, eqStr, eqNone, List.getElem?_cons_zero, List.getElem?_cons_succ, List.set_cons_zero, List.set_cons_succ, Option.some.injEq, exists_eq_left', exists_eq_left, exists_eq_right, exists_eq_right', and_true, true_and, and_false, false_and, or_true, true_or, or_false, false_or, if_true, if_false, List.all_cons, List.all_nil, List.map_cons, List.map_nil, Bool.and_true, Bool.true_and, Bool.and_false, Bool.false_and, reduceCtorEq, ne_eq, not_true, not_false_eq_true, forall_const, PyData.bool.injEq, PyData.int.injEq, PyData.str.injEq, PyData.list.injEq, PyData.tuple.injEq, Bool.false_eq_true, Bool.not_true, Bool.not_false, decide_true, decide_false, eq_self, exists_eq, Bool.not_eq_true,  forall_eq', forall_eq, false_implies, true_implies, Option.map_some, Option.map_none, imp_self, implies_true, Bool.true_eq_false, Bool.true_or, Bool.or_true, Bool.false_or, Bool.or_false, ↓reduceIte, Int.reduceLT, Int.reduceLE, Int.reducePow, Int.reduceNeg, Int.reduceAdd, Int.reduceMul, Int.reduceSub, Int.reduceEq, Nat.reduceAdd, Nat.reducePow, Nat.reduceLT, Nat.reduceMul, Nat.reduceSub, Nat.reduceLeDiff, Nat.reduceEqDiff, and_self, or_self]; rfl
  | tuple _ => simp only [sizeLine, List.length_cons, List.length_nil, Nat.zero_add, okSL, okS, okE, okEL, okC, okO, runL, run, eval, evalL, evalC, putR, binD, addD, cmpD, b1D, b2D, isiD, subD, lenD, itemsD, ltD, lockR, unlockR, putS, pinned, isIm, optI, setP1, setP2, setP3, at0, at1, at2, at3, at4, decide_eq_true_eq, decide_eq_false_iff_not, okT, bindT, eqInt, eqBool, eqStr, eqNone, List.getElem?_cons_zero, List.getElem?_cons_succ, List.set_cons_zero, List.set_cons_succ, Option.some.injEq, exists_eq_left', exists_eq_left, exists_eq_right, exists_eq_right', and_true, true_and, and_false, false_and, or_true, true_or, or_false, false_or, if_true, if_false, List.all_cons, List.all_nil, List.map_cons, List.map_nil, Bool.and_true, Bool.true_and, Bool.and_false, Bool.false_and, reduceCtorEq, ne_eq, not_true, not_false_eq_true, forall_const, PyData.bool.injEq, PyData.int.injEq, PyData.str.injEq, PyData.list.injEq, PyData.tuple.injEq, Bool.false_eq_true, Bool.not_true, Bool.not_false, decide_true, decide_false, eq_self, exists_eq, Bool.not_eq_true,  forall_eq', forall_eq, false_implies, true_implies, Option.map_some, Option.map_none, imp_self, implies_true, Bool.true_eq_false, Bool.true_or, Bool.or_true, Bool.false_or, Bool.or_false, ↓reduceIte, Int.reduceLT, Int.reduceLE, Int.reducePow, Int.reduceNeg, Int.reduceAdd, Int.reduceMul, Int.reduceSub, Int.reduceEq, Nat.reduceAdd, Nat.reducePow, Nat.reduceLT, Nat.reduceMul, Nat.reduceSub, Nat.reduceLeDiff, Nat.reduceEqDiff, and_self, or_self]; rfl
  | dict _ => simp only [sizeLine, List.length_cons, List.length_nil, Nat.zero_add, okSL, okS, okE, okEL, okC, okO, runL, run, eval, evalL, evalC, putR, binD, addD, cmpD, b1D, b2D, isiD, subD, lenD, itemsD, ltD, lockR, unlockR, putS, pinned, isIm, optI, setP1, setP2, setP3, at0, at1, at2, at3, at4, decide_eq_true_eq, decide_eq_false_iff_not, okT, bindT, eqInt, eqBool, eqStr, eqNone, List.getElem?_cons_zero, List.getElem?_cons_succ, List.set_cons_zero, List.set_cons_succ, Option.some.injEq, exists_eq_left', exists_eq_left, exists_eq_right, exists_eq_right', and_true, true_and, and_false, false_and, or_true, true_or, or_false, false_or, if_true, if_false, List.all_cons, List.all_nil, List.map_cons, List.map_nil, Bool.and_true, Bool.true_and, Bool.and_false, Bool.false_and, reduceCtorEq, ne_eq, not_true, not_false_eq_true, forall_const, PyData.bool.injEq, PyData.int.injEq, PyData.str.injEq, PyData.list.injEq, PyData.tuple.injEq, Bool.false_eq_true, Bool.not_true, Bool.not_false, decide_true, decide_false, eq_self, exists_eq, Bool.not_eq_true,  forall_eq', forall_eq, false_implies, true_implies, Option.map_some, Option.map_none, imp_self, implies_true, Bool.true_eq_false, Bool.true_or, Bool.or_true, Bool.false_or, Bool.or_false, ↓reduceIte, Int.reduceLT, Int.reduceLE, Int.reducePow, Int.reduceNeg, Int.reduceAdd, Int.reduceMul, Int.reduceSub, Int.reduceEq, Nat.reduceAdd, Nat.reducePow, Nat.reduceLT, Nat.reduceMul, Nat.reduceSub, Nat.reduceLeDiff, Nat.reduceEqDiff, and_self, or_self]; rfl
def ir__law_is_word : List Sx := [.ret (.and (.isi (.nm 0) .str) (.cmp .eq (.b1 .len (.comp (.nm 1) (.n 1) .ex [(.nm 0)] [(.cmp .notin (.nm 1) (.cs (PyData.str (S [97, 98, 99]))))] [("sign", 1)])) (.cs (PyData.int 0))))]
theorem filter_none {l : List PyData} {p : PyData → Bool} : decide (((l.filter fun d => !p d).length : Int) = 0) = l.all p := by
  induction l with
  | nil => rfl
  | cons a l ih =>
    simp only [List.filter_cons, List.all_cons]
    cases h : p a
    · simp
      omega
    · simpa using ih
theorem lis_word_sem {d : PyData} (hd : Shrt d) : semOf F C 2 false false ir__law_is_word [d] = some (.bool (wordB d), .none) := by
  refine sem_rt ?_
  unfold ir__law_is_word
  show okSL F C _ [.im d, .no] _
  cases d with
  | str x =>
    have hx := hd x rfl
    have e1 : evalL F C [.nm 0] [.im (.str x), .no] = some ([⟨.im, .str x⟩], [.im (.str x), .no]) := by simp only [sizeLine, List.length_cons, List.length_nil, Nat.zero_add, okSL, okS, okE, okEL, okC, okO, runL, run, eval, evalL, evalC, putR, binD, addD, cmpD, b1D, b2D, isiD, subD, lenD, itemsD, ltD, lockR, unlockR, putS, pinned, isIm, optI, setP1, setP2, setP3, at0, at1, at2, at3, at4, decide_eq_true_eq, decide_eq_false_iff_not, okT, bindT, eqInt, eqBool, eqStr, eqNone, List.getElem?_cons_zero, List.getElem?_cons_succ, List.set_cons_zero, List.set_cons_succ, Option.some.injEq, exists_eq_left', exists_eq_left, exists_eq_right, exists_eq_right', and_true, true_and, and_false, false_and, or_true, true_or, or_false, false_or, if_true, if_false, List.all_cons, List.all_nil, List.map_cons, List.map_nil, Bool.and_true, Bool.true_and, Bool.and_false, Bool.false_and, reduceCtorEq, ne_eq, not_true, not_false_eq_true, forall_const, PyData.bool.injEq, PyData.int.injEq, PyData.str.injEq, PyData.list.injEq, PyData.tuple.injEq, Bool.false_eq_true, Bool.not_true, Bool.not_false, decide_true, decide_false, eq_self, exists_eq, Bool.not_eq_true,  forall_eq', forall_eq, false_implies, true_implies, Option.map_some, Option.map_none, imp_self, implies_true, Bool.true_eq_false, Bool.true_or, Bool.or_true, Bool.false_or, Bool.or_false, ↓reduceIte, Int.reduceLT, Int.reduceLE, Int.reducePow, Int.reduceNeg, Int.reduceAdd, Int.reduceMul, Int.reduceSub, Int.reduceEq, Nat.reduceAdd, Nat.reducePow, Nat.reduceLT, Nat.reduceMul, Nat.reduceSub, Nat.reduceLeDiff, Nat.reduceEqDiff, and_self, or_self]
    have e2 : itD .ex [⟨.im, .str x⟩] = some (chars x) := rfl
    rw [w_seq, w_ret, w_and, w_isi, w_nm]
    simp only [List.getElem?_cons_zero, isiD]
    refine ⟨true, rfl, fun _ => ?_, fun z => nomatch z⟩
    rw [w_cmp, w_b1]
    generalize hst : ([.im (.str x), .no] : Stt) = st at e1 ⊢
    refine p_comp (s0 := st) (fun d => !inb d) (fun d => d) e1 rfl e2 (by rw [chars_len]; omega) (by subst hst; rfl) (by subst hst; rfl) (by subst hst; rfl) ?_ ?_
    · intro d hd
      obtain ⟨c, _, rfl⟩ := List.mem_map.mp hd
      subst hst
      have := inAbc (c := c)
      unfold abc at this
      cases hb : inb (.str ⟨#[c]⟩)
      all_goals
        rw [hb] at this
        simp only [sizeLine, List.length_cons, List.length_nil, Nat.zero_add, okSL, okS, okE, okEL, okC, okO, runL, run, eval, evalL, evalC, putR, binD, addD, cmpD, b1D, b2D, isiD, subD, lenD, itemsD, ltD, lockR, unlockR, putS, pinned, isIm, optI, setP1, setP2, setP3, at0, at1, at2, at3, at4, decide_eq_true_eq, decide_eq_false_iff_not, okT, bindT, eqInt, eqBool, eqStr, eqNone, List.getElem?_cons_zero, List.getElem?_cons_succ, List.set_cons_zero, List.set_cons_succ, Option.some.injEq, exists_eq_left', exists_eq_left, exists_eq_right, exists_eq_right', and_true, true_and, and_false, false_and, or_true, true_or, or_false, false_or, if_true, if_false, List.all_cons, List.all_nil, List.map_cons, List.map_nil, Bool.and_true, Bool.true_and, Bool.and_false, Bool.false_and, reduceCtorEq, ne_eq, not_true, not_false_eq_true, forall_const, PyData.bool.injEq, PyData.int.injEq, PyData.str.injEq, PyData.list.injEq, PyData.tuple.injEq, Bool.false_eq_true, Bool.not_true, Bool.not_false, decide_true, decide_false, eq_self, exists_eq, Bool.not_eq_true,  forall_eq', forall_eq, false_implies, true_implies, Option.map_some, Option.map_none, imp_self, implies_true, Bool.true_eq_false, Bool.true_or, Bool.or_true, Bool.false_or, Bool.or_false, ↓reduceIte, Int.reduceLT, Int.reduceLE, Int.reducePow, Int.reduceNeg, Int.reduceAdd, Int.reduceMul, Int.reduceSub, Int.reduceEq, Nat.reduceAdd, Nat.reducePow, Nat.reduceLT, Nat.reduceMul, Nat.reduceSub, Nat.reduceLeDiff, Nat.reduceEqDiff, and_self, or_self, this]
        exact ⟨rfl, rfl⟩
    · refine ⟨_, rfl, ?_⟩
      rw [w_cs]
      refine ⟨(chars x).all inb, ?_, _, rfl, rfl, (fun z => nomatch z), fun _ => rfl⟩
      show some (decide ((((((chars x).filter fun d => !inb d).map fun d => d).length : Nat) : Int) = 0)) = _
      rw [List.map_id', filter_none]
  | none => simp only [sizeLine, List.length_cons, List.length_nil, Nat.zero_add, okSL, okS, okE, okEL, okC, okO, runL, run, eval, evalL, evalC, putR, binD, addD, cmpD, b1D, b2D, isiD, subD, lenD, itemsD, ltD, lockR, unlockR, putS, pinned, isIm, optI, setP1, setP2, setP3, at0, at1, at2, at3, at4, decide_eq_true_eq, decide_eq_false_iff_not, okT, bindT, eqInt, eqBool, eqStr, eqNone, List.getElem?_cons_zero, List.getElem?_cons_succ, List.set_cons_zero, List.set_cons_succ, Option.some.injEq, exists_eq_left', exists_eq_left, exists_eq_right, exists_eq_right', and_true, true_and, and_false, false_and, or_true, true_or, or_false, false_or, if_true, if_false, List.all_cons, List.all_nil, List.map_cons, List.map_nil, Bool.and_true, Bool.true_and, Bool.and_false, Bool.false_and, reduceCtorEq, ne_eq, not_true, not_false_eq_true, forall_const, PyData.bool.injEq, PyData.int.injEq, PyData.str.injEq, PyData.list.injEq, PyData.tuple.injEq, Bool.false_eq_true, Bool.not_true, Bool.not_false, decide_true, decide_false, eq_self, exists_eq, Bool.not_eq_true,  forall_eq', forall_eq, false_implies, true_implies, Option.map_some, Option.map_none, imp_self, implies_true, Bool.true_eq_false, Bool.true_or, Bool.or_true, Bool.false_or, Bool.or_false, ↓reduceIte, Int.reduceLT, Int.reduceLE, Int.reducePow, Int.reduceNeg, Int.reduceAdd, Int.reduceMul, Int.reduceSub, Int.reduceEq, Nat.reduceAdd, Nat.reducePow, Nat.reduceLT, Nat.reduceMul, Nat.reduceSub, Nat.reduceLeDiff, Nat.reduceEqDiff, and_self, or_self]; rfl
  | bool _ => simp only [sizeLine, List.length_cons, List.length_nil, Nat.zero_add, okSL, okS, okE, okEL, okC, okO, runL, run, eval, evalL, evalC, putR, binD, addD, cmpD, b1D, b2D, isiD, subD, lenD, itemsD, ltD, lockR, unlockR, putS, pinned, isIm, optI, setP1, setP2, setP3, at0, at1, at2, at3, at4, decide_eq_true_eq, decide_eq_false_iff_not, okT, bindT, eqInt, eqBool, eqStr, eqNone, List.getElem?_cons_zero, List.getElem?_cons_succ, List.set_cons_zero, List.set_cons_succ, Option.some.injEq, exists_eq_left', exists_eq_left, exists_eq_right, exists_eq_right', and_true, true_and, and_false, false_and, or_true, true_or, or_false, false_or, if_true, if_false, List.all_cons, List.all_nil, List.map_cons, List.map_nil, Bool.and_true, Bool.true_and, Bool.and_false, Bool.false_and, reduceCtorEq, ne_eq, not_true, not_false_eq_true, forall_const, PyData.bool.injEq, PyData.int.injEq, PyData.str.injEq, PyData.list.injEq, PyData.tuple.injEq, Bool.false_eq_true, Bool.not_true, Bool.not_false, decide_true, decide_false, eq_self, exists_eq, Bool.not_eq_true,  forall_eq', forall_eq, false_implies, true_implies, Option.map_some, Option.map_none, imp_self, implies_true, Bool.true_eq_false, Bool.true_or, Bool.or_true, Bool.false_or, Bool.or_false, ↓reduceIte, Int.reduceLT, Int.reduceLE, Int.reducePow, Int.reduceNeg, Int.reduceAdd, Int.reduceMul, Int.reduceSub, Int.reduceEq, Nat.reduceAdd, Nat.reducePow, Nat.reduceLT, Nat.reduceMul, Nat.reduceSub, Nat.reduceLeDiff, Nat.reduceEqDiff, and_self, or_self]; rfl
  | int _ => simp only [sizeLine, List.length_cons, List.length_nil, Nat.zero_add, okSL, okS, okE, okEL, okC, okO, runL, run, eval, evalL, evalC, putR, binD, addD, cmpD, b1D, b2D, isiD, subD, lenD, itemsD, ltD, lockR, unlockR, putS, pinned, isIm, optI, setP1, setP2, setP3, at0, at1, at2, at3, at4, decide_eq_true_eq, decide_eq_false_iff_not, okT, bindT, eqInt, eqBool, eqStr, eqNone, List.getElem?_cons_zero, List.getElem?_cons_succ, List.set_cons_zero, List.set_cons_succ, Option.some.injEq, exists_eq_left', exists_eq_left, exists_eq_right, exists_eq_right', and_true, true_and, and_false, false_and, or_true, true_or, or_false, false_or, if_true, if_false, List.all_cons, List.all_nil, List.map_cons, List.map_nil, Bool.and_true, Bool.true_and, Bool.and_false, Bool.false_and, reduceCtorEq, ne_eq, not_true, not_false_eq_true, forall_const, PyData.bool.injEq, PyData.int.injEq, PyData.str.injEq, PyData.list.injEq, PyData.tuple.injEq, Bool.false_eq_true, Bool.not_true, Bool.not_false, decide_true, decide_false, eq_self, exists_eq, Bool.not_eq_true,  forall_eq', forall_eq, false_implies, true_implies, Option.map_some, Option.map_none, imp_self, implies_true, Bool.true_eq_false, Bool.true_or, Bool.or_true, Bool.false_or, Bool.or_false, ↓reduceIte, Int.reduceLT, Int.reduceLE, Int.reducePow, Int.reduceNeg, Int.reduceAdd, Int.reduceMul, Int.reduceSub, Int.reduceEq, Nat.reduceAdd, Nat.reducePow, Nat.reduceLT, Nat.reduceMul, Nat.reduceSub, Nat.reduceLeDiff, Nat.reduceEqDiff, and_self, or_self]; rfl
  | list _ => simp only [sizeLine, List.length_cons, List.length_nil, Nat.zero_add, okSL, okS, okE, okEL, okC, okO, runL, run, eval, evalL, evalC, putR, binD, addD, cmpD, b1D, b2D, isiD, subD, lenD, itemsD, ltD, lockR, unlockR, putS, pinned, isIm, optI, setP1, setP2, setP3, at0, at1, at2, at3, at4, decide_eq_true_eq, decide_eq_false_iff_not, okT, bindT, eqInt, eqBool, eqStr, eqNone, List.getElem?_cons_zero, List.getElem?_cons_succ, List.set_cons_zero, List.set_cons_succ, Option.some.injEq, exists_eq_left', exists_eq_left, exists_eq_right, exists_eq_right', and_true, true_and, and_false, false_and, or_true, true_or, or_false, false_or, if_true, if_false, List.all_cons, List.all_nil, List.map_cons, List.map_nil, Bool.and_true, Bool.true_and, Bool.and_false, Bool.false_and, reduceCtorEq, ne_eq, not_true, not_false_eq_true, forall_const, PyData.bool.injEq, PyData.int.injEq, PyData.str.injEq, PyData.list.injEq, PyData.tuple.injEq, Bool.false_eq_true, Bool.not_true, Bool.not_false, decide_true, decide_false, eq_self, exists_eq, Bool.not_eq_true,  forall_eq', forall_eq, false_implies, true_implies, Option.map_some, Option.map_none, imp_self, implies_true, Bool.true_eq_false, Bool.true_or, Bool.or_true, Bool.false_or, Bool.or_false, ↓reduceIte, Int.reduceLT, Int.reduceLE, Int.reducePow, Int.reduceNeg, Int.reduceAdd, Int.reduceMul, Int.reduceSub, Int.reduceEq, Nat.reduceAdd, Nat.reducePow, Nat.reduceLT, Nat.reduceMul, Nat.reduceSub, Nat.reduceLeDiff, Nat.reduceEqDiff, and_self, or_self]; rfl
  | tuple _ => simp only [sizeLine, List.length_cons, List.length_nil, Nat.zero_add, okSL, okS, okE, okEL, okC, okO, runL, run, eval, evalL, evalC, putR, binD, addD, cmpD, b1D, b2D, isiD, subD, lenD, itemsD, ltD, lockR, unlockR, putS, pinned, isIm, optI, setP1, setP2, setP3, at0, at1, at2, at3, at4, decide_eq_true_eq, decide_eq_false_iff_not, okT, bindT, eqInt, eqBool, eqStr, eqNone, List.getElem?_cons_zero, List.getElem?_cons_succ, List.set_cons_zero, List.set_cons_succ, Option.some.injEq, exists_eq_left', exists_eq_left, exists_eq_right, exists_eq_right', and_true, true_and, and_false, false_and, or_true, true_or, or_false, false_or, if_true, if_false, List.all_cons, List.all_nil, List.map_cons, List.map_nil, Bool.and_true, Bool.true_and, Bool.and_false, Bool.false_and, reduceCtorEq, ne_eq, not_true, not_false_eq_true, forall_const, PyData.bool.injEq, PyData.int.injEq, PyData.str.injEq, PyData.list.injEq, PyData.tuple.injEq, Bool.false_eq_true, Bool.not_true, Bool.not_false, decide_true, decide_false, eq_self, exists_eq, Bool.not_eq_true,  forall_eq', forall_eq, false_implies, true_implies, Option.map_some, Option.map_none, imp_self, implies_true, Bool.true_eq_false, Bool.true_or, Bool.or_true, Bool.false_or, Bool.or_false, ↓reduceIte, Int.reduceLT, Int.reduceLE, Int.reducePow, Int.reduceNeg, Int.reduceAdd, Int.reduceMul, Int.reduceSub, Int.reduceEq, Nat.reduceAdd, Nat.reducePow, Nat.reduceLT, Nat.reduceMul, Nat.reduceSub, Nat.reduceLeDiff, Nat.reduceEqDiff, and_self, or_self]; rfl
  | dict _ => simp only [sizeLine, List.length_cons, List.length_nil, Nat.zero_add, okSL, okS, okE, okEL, okC, okO, runL, run, eval, evalL, evalC, putR, binD, addD, cmpD, b1D, b2D, isiD, subD, lenD, itemsD, ltD, lockR, unlockR, putS, pinned, isIm, optI, setP1, setP2, setP3, at0, at1, at2, at3, at4, decide_eq_true_eq, decide_eq_false_iff_not, okT, bindT, eqInt, eqBool, eqStr, eqNone, List.getElem?_cons_zero, List.getElem?_cons_succ, List.set_cons_zero, List.set_cons_succ, Option.some.injEq, exists_eq_left', exists_eq_left, exists_eq_right, exists_eq_right', and_true, true_and, and_false, false_and, or_true, true_or, or_false, false_or, if_true, if_false, List.all_cons, List.all_nil, List.map_cons, List.map_nil, Bool.and_true, Bool.true_and, Bool.and_false, Bool.false_and, reduceCtorEq, ne_eq, not_true, not_false_eq_true, forall_const, PyData.bool.injEq, PyData.int.injEq, PyData.str.injEq, PyData.list.injEq, PyData.tuple.injEq, Bool.false_eq_true, Bool.not_true, Bool.not_false, decide_true, decide_false, eq_self, exists_eq, Bool.not_eq_true,  forall_eq', forall_eq, false_implies, true_implies, Option.map_some, Option.map_none, imp_self, implies_true, Bool.true_eq_false, Bool.true_or, Bool.or_true, Bool.false_or, Bool.or_false, ↓reduceIte, Int.reduceLT, Int.reduceLE, Int.reducePow, Int.reduceNeg, Int.reduceAdd, Int.reduceMul, Int.reduceSub, Int.reduceEq, Nat.reduceAdd, Nat.reducePow, Nat.reduceLT, Nat.reduceMul, Nat.reduceSub, Nat.reduceLeDiff, Nat.reduceEqDiff, and_self, or_self]; rfl
def shortB : PyData → Bool
  | .str x => wordB (.str x) && decide (x.length ≤ 9)
  | _ => false
structure Isw (F : Nat → Fn) (f : Nat) : Prop where
  io : (F f).io = false
  fr : (F f).fr = false
  sem : ∀ d, Shrt d → (F f).sem [d] = some (.bool (wordB d), .none)
theorem wordB_str {d : PyData} (h : wordB d = true) : ∃ x, d = .str x := by
  cases d <;> first | exact ⟨_, rfl⟩ | cases h
theorem short_no {d : PyData} (h : wordB d = false) : shortB d = false := by
  cases d with
  | str x => simp only [shortB, h, Bool.false_and]
  | _ => rfl
def ir_is_short (f_is_word : Nat) (g_MOST : Nat) : List Sx := [.ret (.and (.call f_is_word [(.nm 0)]) (.cmp .le (.b1 .len (.nm 0)) (.gl g_MOST)))]
theorem is_short_sem {f g : Nat} (hf : Isw F f) (hg : C g = .int 9) {d : PyData} (hd : Shrt d) : semOf F C 1 false false (ir_is_short f g) [d] = some (.bool (shortB d), .none) := by
  refine sem_rt ?_
  unfold ir_is_short
  show okSL F C _ [.im d] _
  have h := hf.sem d hd
  cases hw : wordB d with
  | false =>
    rw [hw] at h
    rw [short_no hw]
    simp only [sizeLine, List.length_cons, List.length_nil, Nat.zero_add, okSL, okS, okE, okEL, okC, okO, runL, run, eval, evalL, evalC, putR, binD, addD, cmpD, b1D, b2D, isiD, subD, lenD, itemsD, ltD, lockR, unlockR, putS, pinned, isIm, optI, setP1, setP2, setP3, at0, at1, at2, at3, at4, decide_eq_true_eq, decide_eq_false_iff_not, okT, bindT, eqInt, eqBool, eqStr, eqNone, List.getElem?_cons_zero, List.getElem?_cons_succ, List.set_cons_zero, List.set_cons_succ, Option.some.injEq, exists_eq_left', exists_eq_left, exists_eq_right, exists_eq_right', and_true, true_and, and_false, false_and, or_true, true_or, or_false, false_or, if_true, if_false, List.all_cons, List.all_nil, List.map_cons, List.map_nil, Bool.and_true, Bool.true_and, Bool.and_false, Bool.false_and, reduceCtorEq, ne_eq, not_true, not_false_eq_true, forall_const, PyData.bool.injEq, PyData.int.injEq, PyData.str.injEq, PyData.list.injEq, PyData.tuple.injEq, Bool.false_eq_true, Bool.not_true, Bool.not_false, decide_true, decide_false, eq_self, exists_eq, Bool.not_eq_true,  forall_eq', forall_eq, false_implies, true_implies, Option.map_some, Option.map_none, imp_self, implies_true, Bool.true_eq_false, Bool.true_or, Bool.or_true, Bool.false_or, Bool.or_false, ↓reduceIte, Int.reduceLT, Int.reduceLE, Int.reducePow, Int.reduceNeg, Int.reduceAdd, Int.reduceMul, Int.reduceSub, Int.reduceEq, Nat.reduceAdd, Nat.reducePow, Nat.reduceLT, Nat.reduceMul, Nat.reduceSub, Nat.reduceLeDiff, Nat.reduceEqDiff, and_self, or_self, h, hf.io, hf.fr]
  | true =>
    rw [hw] at h
    obtain ⟨x, rfl⟩ := wordB_str hw
    have hx := hd x rfl
    have hx' : x.length ≤ 16777216 := by omega
    simp only [sizeLine, List.length_cons, List.length_nil, Nat.zero_add, okSL, okS, okE, okEL, okC, okO, runL, run, eval, evalL, evalC, putR, binD, addD, cmpD, b1D, b2D, isiD, subD, lenD, itemsD, ltD, lockR, unlockR, putS, pinned, isIm, optI, setP1, setP2, setP3, at0, at1, at2, at3, at4, decide_eq_true_eq, decide_eq_false_iff_not, okT, bindT, eqInt, eqBool, eqStr, eqNone, List.getElem?_cons_zero, List.getElem?_cons_succ, List.set_cons_zero, List.set_cons_succ, Option.some.injEq, exists_eq_left', exists_eq_left, exists_eq_right, exists_eq_right', and_true, true_and, and_false, false_and, or_true, true_or, or_false, false_or, if_true, if_false, List.all_cons, List.all_nil, List.map_cons, List.map_nil, Bool.and_true, Bool.true_and, Bool.and_false, Bool.false_and, reduceCtorEq, ne_eq, not_true, not_false_eq_true, forall_const, PyData.bool.injEq, PyData.int.injEq, PyData.str.injEq, PyData.list.injEq, PyData.tuple.injEq, Bool.false_eq_true, Bool.not_true, Bool.not_false, decide_true, decide_false, eq_self, exists_eq, Bool.not_eq_true,  forall_eq', forall_eq, false_implies, true_implies, Option.map_some, Option.map_none, imp_self, implies_true, Bool.true_eq_false, Bool.true_or, Bool.or_true, Bool.false_or, Bool.or_false, ↓reduceIte, Int.reduceLT, Int.reduceLE, Int.reducePow, Int.reduceNeg, Int.reduceAdd, Int.reduceMul, Int.reduceSub, Int.reduceEq, Nat.reduceAdd, Nat.reducePow, Nat.reduceLT, Nat.reduceMul, Nat.reduceSub, Nat.reduceLeDiff, Nat.reduceEqDiff, and_self, or_self, h, hf.io, hf.fr, hg, hx']
    simp only [shortB, hw, Bool.true_and]
    congr 2
    rw [decide_eq_decide]
    omega
/-- all of the words of n letters -/
def Wn : Nat → List (List Nat)
  | 0 => [[]]
  | n + 1 => (Wn n).flatMap fun w => [97, 98, 99].map fun c => w ++ [c]
def txts (l : List (List Nat)) : List PyData := l.map fun w => .str (S w)
/-- and up to n letters -/
def Wup : Nat → List (List Nat)
  | 0 => Wn 0
  | n + 1 => Wup n ++ Wn (n + 1)
theorem Wn_len : ∀ (n : Nat) (w : List Nat), w ∈ Wn n → w.length = n
  | 0, w, h => by
    rw [List.mem_singleton.mp h]
    rfl
  | n + 1, w, h => by
    obtain ⟨u, hu, h⟩ := List.mem_flatMap.mp h
    obtain ⟨c, _, rfl⟩ := List.mem_map.mp h
    rw [List.length_append, Wn_len n u hu]
    rfl
/-- the next words -/
def nxt (d : PyData) (c : PyData) : PyData := match d, c with
  | .str x, .str y => .str (x ++ y)
  | _, _ => .none
def abcs : List PyData := [.str ⟨#[97]⟩, .str ⟨#[98]⟩, .str ⟨#[99]⟩]
theorem nxt_all (l : List (List Nat)) : (txts l).flatMap (fun d => abcs.map (nxt d)) = txts (l.flatMap fun w => [97, 98, 99].map fun c => w ++ [c]) := by
  induction l with
  | nil => rfl
  | cons w l ih =>
    have e : ∀ c : Nat, S w ++ (⟨#[c]⟩ : Str) = S (w ++ [c]) := fun c => S_app (a := w) (b := [c])
    show (abcs.map (nxt (.str (S w)))) ++ (txts l).flatMap (fun d => abcs.map (nxt d)) = _
    rw [ih]
    simp only [abcs, List.map_cons, List.map_nil, nxt, e, txts, List.flatMap_cons, List.map_append, List.cons_append, List.nil_append]
theorem Wn_count : ∀ n, (Wn n).length = 3 ^ n
  | 0 => rfl
  | n + 1 => by
    show ((Wn n).flatMap fun w => [97, 98, 99].map fun c => w ++ [c]).length = _
    have : ∀ l : List (List Nat), (l.flatMap fun w => [97, 98, 99].map fun c => w ++ [c]).length = 3 * l.length := by
      intro l
      induction l with
      | nil => rfl
      | cons a l ih => rw [List.flatMap_cons, List.length_append, ih]; simp only [List.length_map, List.length_cons, List.length_nil]; omega
    rw [this, Wn_count n, Nat.pow_succ]
    omega
def ir_words_of (g_LETTERS : Nat) : List Sx := [.set 1 false (.lst [(.cs (PyData.str (S [])))]),
  .for (.n 2) .r1 [(.nm 0)] [.set 1 false (.comp2 (.bin .add (.nm 3) (.nm 4)) (.n 3) .ex [(.nm 1)] (.n 4) .ex [(.gl g_LETTERS)] [] [("word", 3), ("sign", 4)])],
  .ret (.nm 1)]
theorem pow3_le {a b : Nat} (h : a ≤ b) : 3 ^ a ≤ 3 ^ b := Nat.pow_le_pow_right (by decide) h
theorem words_of_sem {g : Nat} (hg : C g = abc) {n : Nat} (hn : n ≤ 10) {z : Int} (hz : z = (n : Int)) : semOf F C 5 false false (ir_words_of g) [.int z] = some (.list (txts (Wn n)), .none) := by
  refine sem_rt ?_
  unfold ir_words_of
  show okSL F C _ [.im (.int z), .no, .no, .no, .no] _
  refine step (s1 := [.im (.int z), .im (.list (txts (Wn 0))), .no, .no, .no]) (by simp only [sizeLine, List.length_cons, List.length_nil, Nat.zero_add, okSL, okS, okE, okEL, okC, okO, runL, run, eval, evalL, evalC, putR, binD, addD, cmpD, b1D, b2D, isiD, subD, lenD, itemsD, ltD, lockR, unlockR, putS, pinned, isIm, optI, setP1, setP2, setP3, at0, at1, at2, at3, at4, decide_eq_true_eq, decide_eq_false_iff_not, okT, bindT, eqInt, eqBool, eqStr, eqNone, List.getElem?_cons_zero, List.getElem?_cons_succ, List.set_cons_zero, List.set_cons_succ, Option.some.injEq, exists_eq_left', exists_eq_left, exists_eq_right, exists_eq_right', and_true, true_and, and_false, false_and, or_true, true_or, or_false, false_or, if_true, if_false, List.all_cons, List.all_nil, List.map_cons, List.map_nil, Bool.and_true, Bool.true_and, Bool.and_false, Bool.false_and, reduceCtorEq, ne_eq, not_true, not_false_eq_true, forall_const, PyData.bool.injEq, PyData.int.injEq, PyData.str.injEq, PyData.list.injEq, PyData.tuple.injEq, Bool.false_eq_true, Bool.not_true, Bool.not_false, decide_true, decide_false, eq_self, exists_eq, Bool.not_eq_true,  forall_eq', forall_eq, false_implies, true_implies, Option.map_some, Option.map_none, imp_self, implies_true, Bool.true_eq_false, Bool.true_or, Bool.or_true, Bool.false_or, Bool.or_false, ↓reduceIte, Int.reduceLT, Int.reduceLE, Int.reducePow, Int.reduceNeg, Int.reduceAdd, Int.reduceMul, Int.reduceSub, Int.reduceEq, Nat.reduceAdd, Nat.reducePow, Nat.reduceLT, Nat.reduceMul, Nat.reduceSub, Nat.reduceLeDiff, Nat.reduceEqDiff, and_self, or_self]; rfl) ?_
  have e1 : evalL F C [.nm 0] [.im (.int z), .im (.list (txts (Wn 0))), .no, .no, .no] = some ([⟨.im, .int z⟩], [.im (.int z), .im (.list (txts (Wn 0))), .no, .no, .no]) := by simp only [sizeLine, List.length_cons, List.length_nil, Nat.zero_add, okSL, okS, okE, okEL, okC, okO, runL, run, eval, evalL, evalC, putR, binD, addD, cmpD, b1D, b2D, isiD, subD, lenD, itemsD, ltD, lockR, unlockR, putS, pinned, isIm, optI, setP1, setP2, setP3, at0, at1, at2, at3, at4, decide_eq_true_eq, decide_eq_false_iff_not, okT, bindT, eqInt, eqBool, eqStr, eqNone, List.getElem?_cons_zero, List.getElem?_cons_succ, List.set_cons_zero, List.set_cons_succ, Option.some.injEq, exists_eq_left', exists_eq_left, exists_eq_right, exists_eq_right', and_true, true_and, and_false, false_and, or_true, true_or, or_false, false_or, if_true, if_false, List.all_cons, List.all_nil, List.map_cons, List.map_nil, Bool.and_true, Bool.true_and, Bool.and_false, Bool.false_and, reduceCtorEq, ne_eq, not_true, not_false_eq_true, forall_const, PyData.bool.injEq, PyData.int.injEq, PyData.str.injEq, PyData.list.injEq, PyData.tuple.injEq, Bool.false_eq_true, Bool.not_true, Bool.not_false, decide_true, decide_false, eq_self, exists_eq, Bool.not_eq_true,  forall_eq', forall_eq, false_implies, true_implies, Option.map_some, Option.map_none, imp_self, implies_true, Bool.true_eq_false, Bool.true_or, Bool.or_true, Bool.false_or, Bool.or_false, ↓reduceIte, Int.reduceLT, Int.reduceLE, Int.reducePow, Int.reduceNeg, Int.reduceAdd, Int.reduceMul, Int.reduceSub, Int.reduceEq, Nat.reduceAdd, Nat.reducePow, Nat.reduceLT, Nat.reduceMul, Nat.reduceSub, Nat.reduceLeDiff, Nat.reduceEqDiff, and_self, or_self]
  have e2 : itD .r1 [⟨.im, .int z⟩] = some (rng 0 z) := lenItd (by omega) (by omega)
  generalize hst : ([.im (.int z), .im (.list (txts (Wn 0))), .no, .no, .no] : Stt) = st at e1 ⊢
  refine stepN (Q0 := fun t => ∃ k, t = [.im (.int z), .im (.list (txts (Wn n))), k, .no, .no]) ?_ ?_
  · refine l_forN e1 e2 (fun i t => ∃ k, t = [.im (.int z), .im (.list (txts (Wn i))), k, .no, .no] ∧ (k = .no ∨ ∃ d, k = .im d)) ⟨_, hst.symm, .inl rfl⟩ ?_ ?_
    · rintro i t hi ⟨k, rfl, hk⟩
      rw [rng_get hi]
      rw [rng_len] at hi
      have hb : okT (.n 2) (.int (0 + (i : Int))) [.im (.int z), .im (.list (txts (Wn i))), k, .no, .no] fun t1 => t1 = [.im (.int z), .im (.list (txts (Wn i))), .im (.int (0 + (i : Int))), .no, .no] := by
        rcases hk with rfl | ⟨d, rfl⟩ <;> simp only [sizeLine, List.length_cons, List.length_nil, Nat.zero_add, okSL, okS, okE, okEL, okC, okO, runL, run, eval, evalL, evalC, putR, binD, addD, cmpD, b1D, b2D, isiD, subD, lenD, itemsD, ltD, lockR, unlockR, putS, pinned, isIm, optI, setP1, setP2, setP3, at0, at1, at2, at3, at4, decide_eq_true_eq, decide_eq_false_iff_not, okT, bindT, eqInt, eqBool, eqStr, eqNone, List.getElem?_cons_zero, List.getElem?_cons_succ, List.set_cons_zero, List.set_cons_succ, Option.some.injEq, exists_eq_left', exists_eq_left, exists_eq_right, exists_eq_right', and_true, true_and, and_false, false_and, or_true, true_or, or_false, false_or, if_true, if_false, List.all_cons, List.all_nil, List.map_cons, List.map_nil, Bool.and_true, Bool.true_and, Bool.and_false, Bool.false_and, reduceCtorEq, ne_eq, not_true, not_false_eq_true, forall_const, PyData.bool.injEq, PyData.int.injEq, PyData.str.injEq, PyData.list.injEq, PyData.tuple.injEq, Bool.false_eq_true, Bool.not_true, Bool.not_false, decide_true, decide_false, eq_self, exists_eq, Bool.not_eq_true,  forall_eq', forall_eq, false_implies, true_implies, Option.map_some, Option.map_none, imp_self, implies_true, Bool.true_eq_false, Bool.true_or, Bool.or_true, Bool.false_or, Bool.or_false, ↓reduceIte, Int.reduceLT, Int.reduceLE, Int.reducePow, Int.reduceNeg, Int.reduceAdd, Int.reduceMul, Int.reduceSub, Int.reduceEq, Nat.reduceAdd, Nat.reducePow, Nat.reduceLT, Nat.reduceMul, Nat.reduceSub, Nat.reduceLeDiff, Nat.reduceEqDiff, and_self, or_self]
      unfold okT at hb ⊢
      cases eb : bindT (.n 2) (.int (0 + (i : Int))) [.im (.int z), .im (.list (txts (Wn i))), k, .no, .no] with
      | none => rw [eb] at hb; exact hb
      | some t1 =>
        rw [eb] at hb
        have hb : t1 = _ := hb
        show okSL F C _ t1 _
        have f1 : evalL F C [.nm 1] t1 = some ([⟨.im, .list (txts (Wn i))⟩], t1) := by subst hb; simp only [sizeLine, List.length_cons, List.length_nil, Nat.zero_add, okSL, okS, okE, okEL, okC, okO, runL, run, eval, evalL, evalC, putR, binD, addD, cmpD, b1D, b2D, isiD, subD, lenD, itemsD, ltD, lockR, unlockR, putS, pinned, isIm, optI, setP1, setP2, setP3, at0, at1, at2, at3, at4, decide_eq_true_eq, decide_eq_false_iff_not, okT, bindT, eqInt, eqBool, eqStr, eqNone, List.getElem?_cons_zero, List.getElem?_cons_succ, List.set_cons_zero, List.set_cons_succ, Option.some.injEq, exists_eq_left', exists_eq_left, exists_eq_right, exists_eq_right', and_true, true_and, and_false, false_and, or_true, true_or, or_false, false_or, if_true, if_false, List.all_cons, List.all_nil, List.map_cons, List.map_nil, Bool.and_true, Bool.true_and, Bool.and_false, Bool.false_and, reduceCtorEq, ne_eq, not_true, not_false_eq_true, forall_const, PyData.bool.injEq, PyData.int.injEq, PyData.str.injEq, PyData.list.injEq, PyData.tuple.injEq, Bool.false_eq_true, Bool.not_true, Bool.not_false, decide_true, decide_false, eq_self, exists_eq, Bool.not_eq_true,  forall_eq', forall_eq, false_implies, true_implies, Option.map_some, Option.map_none, imp_self, implies_true, Bool.true_eq_false, Bool.true_or, Bool.or_true, Bool.false_or, Bool.or_false, ↓reduceIte, Int.reduceLT, Int.reduceLE, Int.reducePow, Int.reduceNeg, Int.reduceAdd, Int.reduceMul, Int.reduceSub, Int.reduceEq, Nat.reduceAdd, Nat.reducePow, Nat.reduceLT, Nat.reduceMul, Nat.reduceSub, Nat.reduceLeDiff, Nat.reduceEqDiff, and_self, or_self]
        rw [w_seq, w_set]
        refine p_comp2 (s0 := t1) (ds := txts (Wn i)) (fun _ => abcs) nxt f1 rfl rfl ?_ (by subst hb; rfl) (by subst hb; rfl) (by subst hb; rfl) ?_ ?_
        · rw [nxt_all]
          show (txts (Wn (i + 1))).length ≤ _
          rw [txts, List.length_map, Wn_count]
          exact Nat.le_trans (pow3_le (by omega : i + 1 ≤ 10)) (by decide)
        · intro d hd
          obtain ⟨w, hw, rfl⟩ := List.mem_map.mp hd
          have hwl := Wn_len i w hw
          subst hb
          show ∃ rs1, evalL F C [.gl g] [.im (.int z), .im (.list (txts (Wn i))), .im (.int (0 + (i : Int))), .im (.str (S w)), .no] = _ ∧ _
          refine ⟨[⟨.im, C g⟩], by simp only [sizeLine, List.length_cons, List.length_nil, Nat.zero_add, okSL, okS, okE, okEL, okC, okO, runL, run, eval, evalL, evalC, putR, binD, addD, cmpD, b1D, b2D, isiD, subD, lenD, itemsD, ltD, lockR, unlockR, putS, pinned, isIm, optI, setP1, setP2, setP3, at0, at1, at2, at3, at4, decide_eq_true_eq, decide_eq_false_iff_not, okT, bindT, eqInt, eqBool, eqStr, eqNone, List.getElem?_cons_zero, List.getElem?_cons_succ, List.set_cons_zero, List.set_cons_succ, Option.some.injEq, exists_eq_left', exists_eq_left, exists_eq_right, exists_eq_right', and_true, true_and, and_false, false_and, or_true, true_or, or_false, false_or, if_true, if_false, List.all_cons, List.all_nil, List.map_cons, List.map_nil, Bool.and_true, Bool.true_and, Bool.and_false, Bool.false_and, reduceCtorEq, ne_eq, not_true, not_false_eq_true, forall_const, PyData.bool.injEq, PyData.int.injEq, PyData.str.injEq, PyData.list.injEq, PyData.tuple.injEq, Bool.false_eq_true, Bool.not_true, Bool.not_false, decide_true, decide_false, eq_self, exists_eq, Bool.not_eq_true,  forall_eq', forall_eq, false_implies, true_implies, Option.map_some, Option.map_none, imp_self, implies_true, Bool.true_eq_false, Bool.true_or, Bool.or_true, Bool.false_or, Bool.or_false, ↓reduceIte, Int.reduceLT, Int.reduceLE, Int.reducePow, Int.reduceNeg, Int.reduceAdd, Int.reduceMul, Int.reduceSub, Int.reduceEq, Nat.reduceAdd, Nat.reducePow, Nat.reduceLT, Nat.reduceMul, Nat.reduceSub, Nat.reduceLeDiff, Nat.reduceEqDiff, and_self, or_self], rfl, by rw [hg]; rfl, rfl, rfl, rfl, ?_⟩
          intro c hc
          have : ∃ y : Nat, c = .str ⟨#[y]⟩ := by
            simp only [abcs, List.mem_cons, List.mem_nil_iff, or_false] at hc
            rcases hc with rfl | rfl | rfl <;> exact ⟨_, rfl⟩
          obtain ⟨y, rfl⟩ := this
          have ea : addD (.str (S w)) (.str ⟨#[y]⟩) = some ⟨.im, .str (S w ++ ⟨#[y]⟩)⟩ := by
            have := addS (a := w) (b := [y]) (by rw [hwl]; simp only [List.length_cons, List.length_nil]; omega)
            rw [← S_app] at this
            exact this
          simp only [sizeLine, List.length_cons, List.length_nil, Nat.zero_add, okSL, okS, okE, okEL, okC, okO, runL, run, eval, evalL, evalC, putR, binD, cmpD, b1D, b2D, isiD, subD, itemsD, lockR, unlockR, putS, pinned, isIm, optI, setP1, setP2, setP3, at0, at1, at2, at3, at4, decide_eq_true_eq, decide_eq_false_iff_not, okT, bindT, eqInt, eqBool, eqStr, eqNone, List.getElem?_cons_zero, List.getElem?_cons_succ, List.set_cons_zero, List.set_cons_succ, Option.some.injEq, exists_eq_left', exists_eq_left, exists_eq_right, exists_eq_right', and_true, true_and, and_false, false_and, or_true, true_or, or_false, false_or, if_true, if_false, List.all_cons, List.all_nil, List.map_cons, List.map_nil, Bool.and_true, Bool.true_and, Bool.and_false, Bool.false_and, reduceCtorEq, ne_eq, not_true, not_false_eq_true, forall_const, PyData.bool.injEq, PyData.int.injEq, PyData.str.injEq, PyData.list.injEq, PyData.tuple.injEq, Bool.false_eq_true, Bool.not_true, Bool.not_false, decide_true, decide_false, eq_self, exists_eq, Bool.not_eq_true,  forall_eq', forall_eq, false_implies, true_implies, Option.map_some, Option.map_none, imp_self, implies_true, Bool.true_eq_false, Bool.true_or, Bool.or_true, Bool.false_or, Bool.or_false, ↓reduceIte, Int.reduceLT, Int.reduceLE, Int.reducePow, Int.reduceNeg, Int.reduceAdd, Int.reduceMul, Int.reduceSub, Int.reduceEq, Nat.reduceAdd, Nat.reducePow, Nat.reduceLT, Nat.reduceMul, Nat.reduceSub, Nat.reduceLeDiff, Nat.reduceEqDiff, and_self, or_self, ea, tgIx, wipeS]
          exact ⟨rfl, rfl⟩
        · subst hb
          rw [nxt_all]
          refine ⟨rfl, _, rfl, fun _ => ?_, fun z => absurd rfl z⟩
          exact ⟨rfl, _, rfl, .inr ⟨_, rfl⟩⟩
    · rintro t ⟨k, rfl, hk⟩
      rw [rng_len]
      exact ⟨rfl, k, by rw [Int.sub_zero, hz, Int.toNat_natCast]; rfl⟩
  · rintro t ⟨k, rfl⟩
    refine stepR (f := .rt _) (by simp only [sizeLine, List.length_cons, List.length_nil, Nat.zero_add, okSL, okS, okE, okEL, okC, okO, runL, run, eval, evalL, evalC, putR, binD, addD, cmpD, b1D, b2D, isiD, subD, lenD, itemsD, ltD, lockR, unlockR, putS, pinned, isIm, optI, setP1, setP2, setP3, at0, at1, at2, at3, at4, decide_eq_true_eq, decide_eq_false_iff_not, okT, bindT, eqInt, eqBool, eqStr, eqNone, List.getElem?_cons_zero, List.getElem?_cons_succ, List.set_cons_zero, List.set_cons_succ, Option.some.injEq, exists_eq_left', exists_eq_left, exists_eq_right, exists_eq_right', and_true, true_and, and_false, false_and, or_true, true_or, or_false, false_or, if_true, if_false, List.all_cons, List.all_nil, List.map_cons, List.map_nil, Bool.and_true, Bool.true_and, Bool.and_false, Bool.false_and, reduceCtorEq, ne_eq, not_true, not_false_eq_true, forall_const, PyData.bool.injEq, PyData.int.injEq, PyData.str.injEq, PyData.list.injEq, PyData.tuple.injEq, Bool.false_eq_true, Bool.not_true, Bool.not_false, decide_true, decide_false, eq_self, exists_eq, Bool.not_eq_true,  forall_eq', forall_eq, false_implies, true_implies, Option.map_some, Option.map_none, imp_self, implies_true, Bool.true_eq_false, Bool.true_or, Bool.or_true, Bool.false_or, Bool.or_false, ↓reduceIte, Int.reduceLT, Int.reduceLE, Int.reducePow, Int.reduceNeg, Int.reduceAdd, Int.reduceMul, Int.reduceSub, Int.reduceEq, Nat.reduceAdd, Nat.reducePow, Nat.reduceLT, Nat.reduceMul, Nat.reduceSub, Nat.reduceLeDiff, Nat.reduceEqDiff, and_self, or_self]; rfl) (fun z => nomatch z) rfl
end
end Ev

set_option autoImplicit false
/-! K01c: what k01's defs compute: words up to a length, odd values. -/
namespace Ev
open PySem
open L2 (atI ixN)
section
variable {F : Nat → Fn} {C : Nat → PyData}
structure Wof (F : Nat → Fn) (f : Nat) : Prop where
  io : (F f).io = false
  fr : (F f).fr = false
  sem : ∀ (n : Nat) (z : Int), n ≤ 10 → z = (n : Int) → (F f).sem [.int z] = some (.list (txts (Wn n)), .none)
def wofD (d : PyData) : List PyData := match d with
  | .int i => txts (Wn i.toNat)
  | _ => []
theorem wup_flat : ∀ n : Nat, ((List.range (n + 1)).map fun (k : Nat) => PyData.int (0 + (k : Int))).flatMap (fun d => (wofD d).map fun x => x) = txts (Wup n)
  | 0 => by
    simp [wofD, Wup, List.range_succ]
  | n + 1 => by
    rw [List.range_succ, List.map_append, List.flatMap_append, wup_flat n]
    simp [wofD, Wup, txts]
theorem Wup_count : ∀ n, (Wup n).length ≤ 3 ^ (n + 1)
  | 0 => by decide
  | n + 1 => by
    have := Wup_count n
    show (Wup n ++ Wn (n + 1)).length ≤ _
    rw [List.length_append, Wn_count, Nat.pow_succ 3 (n + 1)]
    omega
def ir_words_up_to (f_words_of : Nat) : List Sx := [.ret (.comp2 (.nm 2) (.n 1) .r1 [(.bin .add (.nm 0) (.cs (PyData.int 1)))] (.n 2) .ex [(.call f_words_of [(.nm 1)])] [] [("many", 1), ("word", 2)])]
theorem words_up_sem {f : Nat} (hf : Wof F f) {n : Nat} (hn : n ≤ 9) {z : Int} (hz : z = (n : Int)) : semOf F C 3 false false (ir_words_up_to f) [.int z] = some (.list (txts (Wup n)), .none) := by
  refine sem_rt ?_
  unfold ir_words_up_to
  show okSL F C _ [.im (.int z), .no, .no] _
  have e1 : evalL F C [.bin .add (.nm 0) (.cs (PyData.int 1))] [.im (.int z), .no, .no] = some ([⟨.im, .int (z + 1)⟩], [.im (.int z), .no, .no]) := by simp only [sizeLine, List.length_cons, List.length_nil, Nat.zero_add, okSL, okS, okE, okEL, okC, okO, runL, run, eval, evalL, evalC, putR, binD, addD, cmpD, b1D, b2D, isiD, subD, lenD, itemsD, ltD, lockR, unlockR, putS, pinned, isIm, optI, setP1, setP2, setP3, at0, at1, at2, at3, at4, decide_eq_true_eq, decide_eq_false_iff_not, okT, bindT, eqInt, eqBool, eqStr, eqNone, List.getElem?_cons_zero, List.getElem?_cons_succ, List.set_cons_zero, List.set_cons_succ, Option.some.injEq, exists_eq_left', exists_eq_left, exists_eq_right, exists_eq_right', and_true, true_and, and_false, false_and, or_true, true_or, or_false, false_or, if_true, if_false, List.all_cons, List.all_nil, List.map_cons, List.map_nil, Bool.and_true, Bool.true_and, Bool.and_false, Bool.false_and, reduceCtorEq, ne_eq, not_true, not_false_eq_true, forall_const, PyData.bool.injEq, PyData.int.injEq, PyData.str.injEq, PyData.list.injEq, PyData.tuple.injEq, Bool.false_eq_true, Bool.not_true, Bool.not_false, decide_true, decide_false, eq_self, exists_eq, Bool.not_eq_true,  forall_eq', forall_eq, false_implies, true_implies, Option.map_some, Option.map_none, imp_self, implies_true, Bool.true_eq_false, Bool.true_or, Bool.or_true, Bool.false_or, Bool.or_false, ↓reduceIte, Int.reduceLT, Int.reduceLE, Int.reducePow, Int.reduceNeg, Int.reduceAdd, Int.reduceMul, Int.reduceSub, Int.reduceEq, Nat.reduceAdd, Nat.reducePow, Nat.reduceLT, Nat.reduceMul, Nat.reduceSub, Nat.reduceLeDiff, Nat.reduceEqDiff, and_self, or_self]
  have e2 : itD .r1 [⟨.im, .int (z + 1)⟩] = some (rng 0 (z + 1)) := lenItd (by omega) (by omega)
  have e3 : (rng 0 (z + 1)).flatMap (fun d => (wofD d).map fun x => x) = txts (Wup n) := by
    rw [← wup_flat n]
    unfold rng
    have : (z + 1 - 0).toNat = n + 1 := by omega
    rw [this]
  rw [w_seq, w_ret]
  generalize hst : ([.im (.int z), .no, .no] : Stt) = st at e1 ⊢
  refine p_comp2 (s0 := st) wofD (fun _ x => x) e1 rfl e2 ?_ (by subst hst; rfl) (by subst hst; rfl) (by subst hst; rfl) ?_ ?_
  · rw [e3]
    rw [txts, List.length_map]
    exact Nat.le_trans (Wup_count n) (Nat.le_trans (pow3_le (by omega : n + 1 ≤ 10)) (by decide))
  · intro d hd
    obtain ⟨k, hk, rfl⟩ := List.mem_map.mp hd
    have hk' : k ≤ 10 := by
      have := List.mem_range.mp hk
      omega
    have h := hf.sem k (0 + (k : Int)) hk' (by omega)
    generalize hy : (0 + (k : Int)) = y at h
    have ew : wofD (.int y) = txts (Wn k) := by
      show txts (Wn y.toNat) = _
      have : y.toNat = k := by omega
      rw [this]
    subst hst
    show ∃ rs1, evalL F C [.call f [.nm 1]] [.im (.int z), .im (.int y), .no] = _ ∧ _
    refine ⟨[⟨.im, .list (txts (Wn k))⟩], by simp only [sizeLine, List.length_cons, List.length_nil, Nat.zero_add, okSL, okS, okE, okEL, okC, okO, runL, run, eval, evalL, evalC, putR, binD, addD, cmpD, b1D, b2D, isiD, subD, lenD, itemsD, ltD, lockR, unlockR, putS, pinned, isIm, optI, setP1, setP2, setP3, at0, at1, at2, at3, at4, decide_eq_true_eq, decide_eq_false_iff_not, okT, bindT, eqInt, eqBool, eqStr, eqNone, List.getElem?_cons_zero, List.getElem?_cons_succ, List.set_cons_zero, List.set_cons_succ, Option.some.injEq, exists_eq_left', exists_eq_left, exists_eq_right, exists_eq_right', and_true, true_and, and_false, false_and, or_true, true_or, or_false, false_or, if_true, if_false, List.all_cons, List.all_nil, List.map_cons, List.map_nil, Bool.and_true, Bool.true_and, Bool.and_false, Bool.false_and, reduceCtorEq, ne_eq, not_true, not_false_eq_true, forall_const, PyData.bool.injEq, PyData.int.injEq, PyData.str.injEq, PyData.list.injEq, PyData.tuple.injEq, Bool.false_eq_true, Bool.not_true, Bool.not_false, decide_true, decide_false, eq_self, exists_eq, Bool.not_eq_true,  forall_eq', forall_eq, false_implies, true_implies, Option.map_some, Option.map_none, imp_self, implies_true, Bool.true_eq_false, Bool.true_or, Bool.or_true, Bool.false_or, Bool.or_false, ↓reduceIte, Int.reduceLT, Int.reduceLE, Int.reducePow, Int.reduceNeg, Int.reduceAdd, Int.reduceMul, Int.reduceSub, Int.reduceEq, Nat.reduceAdd, Nat.reducePow, Nat.reduceLT, Nat.reduceMul, Nat.reduceSub, Nat.reduceLeDiff, Nat.reduceEqDiff, and_self, or_self, h, hf.io, hf.fr], rfl, by rw [ew]; rfl, rfl, rfl, rfl, ?_⟩
    intro d1 hd1
    simp only [sizeLine, List.length_cons, List.length_nil, Nat.zero_add, okSL, okS, okE, okEL, okC, okO, runL, run, eval, evalL, evalC, putR, binD, addD, cmpD, b1D, b2D, isiD, subD, lenD, itemsD, ltD, lockR, unlockR, putS, pinned, isIm, optI, setP1, setP2, setP3, at0, at1, at2, at3, at4, decide_eq_true_eq, decide_eq_false_iff_not, okT, bindT, eqInt, eqBool, eqStr, eqNone, List.getElem?_cons_zero, List.getElem?_cons_succ, List.set_cons_zero, List.set_cons_succ, Option.some.injEq, exists_eq_left', exists_eq_left, exists_eq_right, exists_eq_right', and_true, true_and, and_false, false_and, or_true, true_or, or_false, false_or, if_true, if_false, List.all_cons, List.all_nil, List.map_cons, List.map_nil, Bool.and_true, Bool.true_and, Bool.and_false, Bool.false_and, reduceCtorEq, ne_eq, not_true, not_false_eq_true, forall_const, PyData.bool.injEq, PyData.int.injEq, PyData.str.injEq, PyData.list.injEq, PyData.tuple.injEq, Bool.false_eq_true, Bool.not_true, Bool.not_false, decide_true, decide_false, eq_self, exists_eq, Bool.not_eq_true,  forall_eq', forall_eq, false_implies, true_implies, Option.map_some, Option.map_none, imp_self, implies_true, Bool.true_eq_false, Bool.true_or, Bool.or_true, Bool.false_or, Bool.or_false, ↓reduceIte, Int.reduceLT, Int.reduceLE, Int.reducePow, Int.reduceNeg, Int.reduceAdd, Int.reduceMul, Int.reduceSub, Int.reduceEq, Nat.reduceAdd, Nat.reducePow, Nat.reduceLT, Nat.reduceMul, Nat.reduceSub, Nat.reduceLeDiff, Nat.reduceEqDiff, and_self, or_self, tgIx, wipeS]
    first | exact ⟨rfl, rfl⟩ | rfl
  · rw [e3]
    exact ⟨rfl, (fun z => nomatch z), fun _ => rfl⟩
def ir__law_words : List Sx := [.par 1 2 false false (.lst [(.cs (PyData.str (S [])))]) (.lst [(.cs (PyData.str (S [])))]),
  .for (.n 3) .r1 [(.nm 0)] [.set 4 false (.lst []),
  .for (.n 5) .ex [(.nm 2)] [.set 4 false (.bin .add (.nm 4) (.comp (.bin .add (.nm 5) (.nm 6)) (.n 6) .ex [(.cs (PyData.str (S [97, 98, 99])))] [] [("sign", 6)]))],
  .set 2 false (.nm 4),
  .set 1 false (.bin .add (.nm 1) (.nm 2))],
  .ret (.nm 1)]
def nextW (l : List (List Nat)) : List (List Nat) := l.flatMap fun w => [97, 98, 99].map fun c => w ++ [c]
theorem nextW_len (l : List (List Nat)) : (nextW l).length = 3 * l.length := by
  induction l with
  | nil => rfl
  | cons a l ih =>
    show (([97, 98, 99].map fun c => a ++ [c]) ++ nextW l).length = _
    rw [List.length_append, ih]
    simp only [List.length_map, List.length_cons, List.length_nil]
    omega
theorem addL {a b : List (List Nat)} (h : a.length + b.length ≤ 16777216) : addD (.list (txts a)) (.list (txts b)) = some ⟨.fr, .list (txts (a ++ b))⟩ := by
  unfold addD
  simp only [txts, List.length_map]
  rw [if_pos (by show _ ≤ 16777216; exact h), List.map_append]
def Slt (k : Sl) : Prop := k = .no ∨ ∃ d, k = .im d
theorem lwords_sem {n : Nat} (hn : n ≤ 9) {z : Int} (hz : z = (n : Int)) : semOf F C 7 false false ir__law_words [.int z] = some (.list (txts (Wup n)), .none) := by
  refine sem_rt ?_
  unfold ir__law_words
  show okSL F C _ [.im (.int z), .no, .no, .no, .no, .no, .no] _
  refine step (s1 := [.im (.int z), .im (.list (txts (Wup 0))), .im (.list (txts (Wn 0))), .no, .no, .no, .no]) (by simp only [sizeLine, List.length_cons, List.length_nil, Nat.zero_add, okSL, okS, okE, okEL, okC, okO, runL, run, eval, evalL, evalC, putR, binD, addD, cmpD, b1D, b2D, isiD, subD, lenD, itemsD, ltD, lockR, unlockR, putS, pinned, isIm, optI, setP1, setP2, setP3, at0, at1, at2, at3, at4, decide_eq_true_eq, decide_eq_false_iff_not, okT, bindT, eqInt, eqBool, eqStr, eqNone, List.getElem?_cons_zero, List.getElem?_cons_succ, List.set_cons_zero, List.set_cons_succ, Option.some.injEq, exists_eq_left', exists_eq_left, exists_eq_right, exists_eq_right', and_true, true_and, and_false, false_and, or_true, true_or, or_false, false_or, if_true, if_false, List.all_cons, List.all_nil, List.map_cons, List.map_nil, Bool.and_true, Bool.true_and, Bool.and_false, Bool.false_and, reduceCtorEq, ne_eq, not_true, not_false_eq_true, forall_const, PyData.bool.injEq, PyData.int.injEq, PyData.str.injEq, PyData.list.injEq, PyData.tuple.injEq, Bool.false_eq_true, Bool.not_true, Bool.not_false, decide_true, decide_false, eq_self, exists_eq, Bool.not_eq_true,  forall_eq', forall_eq, false_implies, true_implies, Option.map_some, Option.map_none, imp_self, implies_true, Bool.true_eq_false, Bool.true_or, Bool.or_true, Bool.false_or, Bool.or_false, ↓reduceIte, Int.reduceLT, Int.reduceLE, Int.reducePow, Int.reduceNeg, Int.reduceAdd, Int.reduceMul, Int.reduceSub, Int.reduceEq, Nat.reduceAdd, Nat.reducePow, Nat.reduceLT, Nat.reduceMul, Nat.reduceSub, Nat.reduceLeDiff, Nat.reduceEqDiff, and_self, or_self]; rfl) ?_
  have e1 : evalL F C [.nm 0] [.im (.int z), .im (.list (txts (Wup 0))), .im (.list (txts (Wn 0))), .no, .no, .no, .no] = some ([⟨.im, .int z⟩], [.im (.int z), .im (.list (txts (Wup 0))), .im (.list (txts (Wn 0))), .no, .no, .no, .no]) := by simp only [sizeLine, List.length_cons, List.length_nil, Nat.zero_add, okSL, okS, okE, okEL, okC, okO, runL, run, eval, evalL, evalC, putR, binD, addD, cmpD, b1D, b2D, isiD, subD, lenD, itemsD, ltD, lockR, unlockR, putS, pinned, isIm, optI, setP1, setP2, setP3, at0, at1, at2, at3, at4, decide_eq_true_eq, decide_eq_false_iff_not, okT, bindT, eqInt, eqBool, eqStr, eqNone, List.getElem?_cons_zero, List.getElem?_cons_succ, List.set_cons_zero, List.set_cons_succ, Option.some.injEq, exists_eq_left', exists_eq_left, exists_eq_right, exists_eq_right', and_true, true_and, and_false, false_and, or_true, true_or, or_false, false_or, if_true, if_false, List.all_cons, List.all_nil, List.map_cons, List.map_nil, Bool.and_true, Bool.true_and, Bool.and_false, Bool.false_and, reduceCtorEq, ne_eq, not_true, not_false_eq_true, forall_const, PyData.bool.injEq, PyData.int.injEq, PyData.str.injEq, PyData.list.injEq, PyData.tuple.injEq, Bool.false_eq_true, Bool.not_true, Bool.not_false, decide_true, decide_false, eq_self, exists_eq, Bool.not_eq_true,  forall_eq', forall_eq, false_implies, true_implies, Option.map_some, Option.map_none, imp_self, implies_true, Bool.true_eq_false, Bool.true_or, Bool.or_true, Bool.false_or, Bool.or_false, ↓reduceIte, Int.reduceLT, Int.reduceLE, Int.reducePow, Int.reduceNeg, Int.reduceAdd, Int.reduceMul, Int.reduceSub, Int.reduceEq, Nat.reduceAdd, Nat.reducePow, Nat.reduceLT, Nat.reduceMul, Nat.reduceSub, Nat.reduceLeDiff, Nat.reduceEqDiff, and_self, or_self]
  have e2 : itD .r1 [⟨.im, .int z⟩] = some (rng 0 z) := lenItd (by omega) (by omega)
  generalize hst : ([.im (.int z), .im (.list (txts (Wup 0))), .im (.list (txts (Wn 0))), .no, .no, .no, .no] : Stt) = st at e1 ⊢
  refine stepN (Q0 := fun t => ∃ a b c d e, t = [.im (.int z), .im (.list (txts (Wup n))), a, b, c, d, e]) ?_ ?_
  · refine l_forN e1 e2 (fun i t => ∃ a b c, t = [.im (.int z), .im (.list (txts (Wup i))), .im (.list (txts (Wn i))), a, b, c, .no] ∧ Slt a ∧ Slt b ∧ Slt c) ⟨_, _, _, hst.symm, .inl rfl, .inl rfl, .inl rfl⟩ ?_ ?_
    · rintro i t hi ⟨a, b, c, rfl, ha, hb, hc⟩
      rw [rng_get hi]
      rw [rng_len] at hi
      have hin : i < n := by omega
      generalize (0 + (i : Int)) = y
      have g1 : okT (.n 3) (.int y) [.im (.int z), .im (.list (txts (Wup i))), .im (.list (txts (Wn i))), a, b, c, .no] fun t1 => t1 = [.im (.int z), .im (.list (txts (Wup i))), .im (.list (txts (Wn i))), .im (.int y), b, c, .no] := by
        rcases ha with rfl | ⟨d, rfl⟩ <;> simp only [sizeLine, List.length_cons, List.length_nil, Nat.zero_add, okSL, okS, okE, okEL, okC, okO, runL, run, eval, evalL, evalC, putR, binD, addD, cmpD, b1D, b2D, isiD, subD, lenD, itemsD, ltD, lockR, unlockR, putS, pinned, isIm, optI, setP1, setP2, setP3, at0, at1, at2, at3, at4, decide_eq_true_eq, decide_eq_false_iff_not, okT, bindT, eqInt, eqBool, eqStr, eqNone, List.getElem?_cons_zero, List.getElem?_cons_succ, List.set_cons_zero, List.set_cons_succ, Option.some.injEq, exists_eq_left', exists_eq_left, exists_eq_right, exists_eq_right', and_true, true_and, and_false, false_and, or_true, true_or, or_false, false_or, if_true, if_false, List.all_cons, List.all_nil, List.map_cons, List.map_nil, Bool.and_true, Bool.true_and, Bool.and_false, Bool.false_and, reduceCtorEq, ne_eq, not_true, not_false_eq_true, forall_const, PyData.bool.injEq, PyData.int.injEq, PyData.str.injEq, PyData.list.injEq, PyData.tuple.injEq, Bool.false_eq_true, Bool.not_true, Bool.not_false, decide_true, decide_false, eq_self, exists_eq, Bool.not_eq_true,  forall_eq', forall_eq, false_implies, true_implies, Option.map_some, Option.map_none, imp_self, implies_true, Bool.true_eq_false, Bool.true_or, Bool.or_true, Bool.false_or, Bool.or_false, ↓reduceIte, Int.reduceLT, Int.reduceLE, Int.reducePow, Int.reduceNeg, Int.reduceAdd, Int.reduceMul, Int.reduceSub, Int.reduceEq, Nat.reduceAdd, Nat.reducePow, Nat.reduceLT, Nat.reduceMul, Nat.reduceSub, Nat.reduceLeDiff, Nat.reduceEqDiff, and_self, or_self]
      unfold okT at g1 ⊢
      cases eb : bindT (.n 3) (.int y) [.im (.int z), .im (.list (txts (Wup i))), .im (.list (txts (Wn i))), a, b, c, .no] with
      | none => rw [eb] at g1; exact g1
      | some t1 =>
        rw [eb] at g1
        have g1 : t1 = _ := g1
        subst g1
        show okSL F C _ [.im (.int z), .im (.list (txts (Wup i))), .im (.list (txts (Wn i))), .im (.int y), b, c, .no] _
        refine step (s1 := [.im (.int z), .im (.list (txts (Wup i))), .im (.list (txts (Wn i))), .im (.int y), .im (.list []), c, .no]) (by rcases hb with rfl | ⟨d, rfl⟩ <;> simp only [sizeLine, List.length_cons, List.length_nil, Nat.zero_add, okSL, okS, okE, okEL, okC, okO, runL, run, eval, evalL, evalC, putR, binD, addD, cmpD, b1D, b2D, isiD, subD, lenD, itemsD, ltD, lockR, unlockR, putS, pinned, isIm, optI, setP1, setP2, setP3, at0, at1, at2, at3, at4, decide_eq_true_eq, decide_eq_false_iff_not, okT, bindT, eqInt, eqBool, eqStr, eqNone, List.getElem?_cons_zero, List.getElem?_cons_succ, List.set_cons_zero, List.set_cons_succ, Option.some.injEq, exists_eq_left', exists_eq_left, exists_eq_right, exists_eq_right', and_true, true_and, and_false, false_and, or_true, true_or, or_false, false_or, if_true, if_false, List.all_cons, List.all_nil, List.map_cons, List.map_nil, Bool.and_true, Bool.true_and, Bool.and_false, Bool.false_and, reduceCtorEq, ne_eq, not_true, not_false_eq_true, forall_const, PyData.bool.injEq, PyData.int.injEq, PyData.str.injEq, PyData.list.injEq, PyData.tuple.injEq, Bool.false_eq_true, Bool.not_true, Bool.not_false, decide_true, decide_false, eq_self, exists_eq, Bool.not_eq_true,  forall_eq', forall_eq, false_implies, true_implies, Option.map_some, Option.map_none, imp_self, implies_true, Bool.true_eq_false, Bool.true_or, Bool.or_true, Bool.false_or, Bool.or_false, ↓reduceIte, Int.reduceLT, Int.reduceLE, Int.reducePow, Int.reduceNeg, Int.reduceAdd, Int.reduceMul, Int.reduceSub, Int.reduceEq, Nat.reduceAdd, Nat.reducePow, Nat.reduceLT, Nat.reduceMul, Nat.reduceSub, Nat.reduceLeDiff, Nat.reduceEqDiff, and_self, or_self]) ?_
        have f1 : evalL F C [.nm 2] [.im (.int z), .im (.list (txts (Wup i))), .im (.list (txts (Wn i))), .im (.int y), .im (.list []), c, .no] = some ([⟨.im, .list (txts (Wn i))⟩], [.im (.int z), .im (.list (txts (Wup i))), .im (.list (txts (Wn i))), .im (.int y), .im (.list []), c, .no]) := by simp only [sizeLine, List.length_cons, List.length_nil, Nat.zero_add, okSL, okS, okE, okEL, okC, okO, runL, run, eval, evalL, evalC, putR, binD, addD, cmpD, b1D, b2D, isiD, subD, lenD, itemsD, ltD, lockR, unlockR, putS, pinned, isIm, optI, setP1, setP2, setP3, at0, at1, at2, at3, at4, decide_eq_true_eq, decide_eq_false_iff_not, okT, bindT, eqInt, eqBool, eqStr, eqNone, List.getElem?_cons_zero, List.getElem?_cons_succ, List.set_cons_zero, List.set_cons_succ, Option.some.injEq, exists_eq_left', exists_eq_left, exists_eq_right, exists_eq_right', and_true, true_and, and_false, false_and, or_true, true_or, or_false, false_or, if_true, if_false, List.all_cons, List.all_nil, List.map_cons, List.map_nil, Bool.and_true, Bool.true_and, Bool.and_false, Bool.false_and, reduceCtorEq, ne_eq, not_true, not_false_eq_true, forall_const, PyData.bool.injEq, PyData.int.injEq, PyData.str.injEq, PyData.list.injEq, PyData.tuple.injEq, Bool.false_eq_true, Bool.not_true, Bool.not_false, decide_true, decide_false, eq_self, exists_eq, Bool.not_eq_true,  forall_eq', forall_eq, false_implies, true_implies, Option.map_some, Option.map_none, imp_self, implies_true, Bool.true_eq_false, Bool.true_or, Bool.or_true, Bool.false_or, Bool.or_false, ↓reduceIte, Int.reduceLT, Int.reduceLE, Int.reducePow, Int.reduceNeg, Int.reduceAdd, Int.reduceMul, Int.reduceSub, Int.reduceEq, Nat.reduceAdd, Nat.reducePow, Nat.reduceLT, Nat.reduceMul, Nat.reduceSub, Nat.reduceLeDiff, Nat.reduceEqDiff, and_self, or_self]
        generalize hs2 : ([.im (.int z), .im (.list (txts (Wup i))), .im (.list (txts (Wn i))), .im (.int y), .im (.list []), c, .no] : Stt) = s2 at f1 ⊢
        have hcn : (Wn i).length ≤ 3 ^ 9 := by rw [Wn_count]; exact pow3_le (by omega)
        have h39 : (3 : Nat) ^ 9 = 19683 := by decide
        refine stepN (Q0 := fun t => ∃ c, Slt c ∧ t = [.im (.int z), .im (.list (txts (Wup i))), .im (.list (txts (Wn i))), .im (.int y), .im (.list (txts (Wn (i + 1)))), c, .no]) ?_ ?_
        · refine l_forN (ds := txts (Wn i)) f1 rfl (fun j t => ∃ c, Slt c ∧ t = [.im (.int z), .im (.list (txts (Wup i))), .im (.list (txts (Wn i))), .im (.int y), .im (.list (txts (nextW ((Wn i).take j)))), c, .no]) ⟨c, hc, hs2.symm⟩ ?_ ?_
          · rintro j t hj ⟨c, hc, rfl⟩
            have hj' : j < (Wn i).length := by rw [txts, List.length_map] at hj; exact hj
            have ew : (txts (Wn i))[j] = .str (S (Wn i)[j]) := by simp only [txts, List.getElem_map]
            rw [ew]
            have hwl := Wn_len i (Wn i)[j] (List.getElem_mem hj')
            have htk : (Wn i).take (j + 1) = (Wn i).take j ++ [(Wn i)[j]] := by rw [List.take_succ_eq_append_getElem hj']
            generalize (Wn i)[j] = w at hwl htk ⊢
            have g2 : okT (.n 5) (.str (S w)) [.im (.int z), .im (.list (txts (Wup i))), .im (.list (txts (Wn i))), .im (.int y), .im (.list (txts (nextW ((Wn i).take j)))), c, .no] fun t1 => t1 = [.im (.int z), .im (.list (txts (Wup i))), .im (.list (txts (Wn i))), .im (.int y), .im (.list (txts (nextW ((Wn i).take j)))), .im (.str (S w)), .no] := by
              rcases hc with rfl | ⟨d, rfl⟩ <;> simp only [sizeLine, List.length_cons, List.length_nil, Nat.zero_add, okSL, okS, okE, okEL, okC, okO, runL, run, eval, evalL, evalC, putR, binD, addD, cmpD, b1D, b2D, isiD, subD, lenD, itemsD, ltD, lockR, unlockR, putS, pinned, isIm, optI, setP1, setP2, setP3, at0, at1, at2, at3, at4, decide_eq_true_eq, decide_eq_false_iff_not, okT, bindT, eqInt, eqBool, eqStr, eqNone, List.getElem?_cons_zero, List.getElem?_cons_succ, List.set_cons_zero, List.set_cons_succ, Option.some.injEq, exists_eq_left', exists_eq_left, exists_eq_right, exists_eq_right', and_true, true_and, and_false, false_and, or_true, true_or, or_false, false_or, if_true, if_false, List.all_cons, List.all_nil, List.map_cons, List.map_nil, Bool.and_true, Bool.true_and, Bool.and_false, Bool.false_and, reduceCtorEq, ne_eq, not_true, not_false_eq_true, forall_const, PyData.bool.injEq, PyData.int.injEq, PyData.str.injEq, PyData.list.injEq, PyData.tuple.injEq, Bool.false_eq_true, Bool.not_true, Bool.not_false, decide_true, decide_false, eq_self, exists_eq, Bool.not_eq_true,  forall_eq', forall_eq, false_implies, true_implies, Option.map_some, Option.map_none, imp_self, implies_true, Bool.true_eq_false, Bool.true_or, Bool.or_true, Bool.false_or, Bool.or_false, ↓reduceIte, Int.reduceLT, Int.reduceLE, Int.reducePow, Int.reduceNeg, Int.reduceAdd, Int.reduceMul, Int.reduceSub, Int.reduceEq, Nat.reduceAdd, Nat.reducePow, Nat.reduceLT, Nat.reduceMul, Nat.reduceSub, Nat.reduceLeDiff, Nat.reduceEqDiff, and_self, or_self]
            unfold okT at g2 ⊢
            cases eb : bindT (.n 5) (.str (S w)) [.im (.int z), .im (.list (txts (Wup i))), .im (.list (txts (Wn i))), .im (.int y), .im (.list (txts (nextW ((Wn i).take j)))), c, .no] with
            | none => rw [eb] at g2; exact g2
            | some t1 =>
              rw [eb] at g2
              have g2 : t1 = _ := g2
              show okSL F C _ t1 _
              rw [w_seq, w_set, w_bin]
              have hn4 : okE F C (.nm 4) t1 fun ra s1 => ra = ⟨.im, .list (txts (nextW ((Wn i).take j)))⟩ ∧ s1 = t1 := by subst g2; simp only [sizeLine, List.length_cons, List.length_nil, Nat.zero_add, okSL, okS, okE, okEL, okC, okO, runL, run, eval, evalL, evalC, putR, binD, addD, cmpD, b1D, b2D, isiD, subD, lenD, itemsD, ltD, lockR, unlockR, putS, pinned, isIm, optI, setP1, setP2, setP3, at0, at1, at2, at3, at4, decide_eq_true_eq, decide_eq_false_iff_not, okT, bindT, eqInt, eqBool, eqStr, eqNone, List.getElem?_cons_zero, List.getElem?_cons_succ, List.set_cons_zero, List.set_cons_succ, Option.some.injEq, exists_eq_left', exists_eq_left, exists_eq_right, exists_eq_right', and_true, true_and, and_false, false_and, or_true, true_or, or_false, false_or, if_true, if_false, List.all_cons, List.all_nil, List.map_cons, List.map_nil, Bool.and_true, Bool.true_and, Bool.and_false, Bool.false_and, reduceCtorEq, ne_eq, not_true, not_false_eq_true, forall_const, PyData.bool.injEq, PyData.int.injEq, PyData.str.injEq, PyData.list.injEq, PyData.tuple.injEq, Bool.false_eq_true, Bool.not_true, Bool.not_false, decide_true, decide_false, eq_self, exists_eq, Bool.not_eq_true,  forall_eq', forall_eq, false_implies, true_implies, Option.map_some, Option.map_none, imp_self, implies_true, Bool.true_eq_false, Bool.true_or, Bool.or_true, Bool.false_or, Bool.or_false, ↓reduceIte, Int.reduceLT, Int.reduceLE, Int.reducePow, Int.reduceNeg, Int.reduceAdd, Int.reduceMul, Int.reduceSub, Int.reduceEq, Nat.reduceAdd, Nat.reducePow, Nat.reduceLT, Nat.reduceMul, Nat.reduceSub, Nat.reduceLeDiff, Nat.reduceEqDiff, and_self, or_self]
              refine okE.imp hn4 ?_
              rintro ra s1 ⟨hra, hs1⟩
              rw [hra, hs1]
              show okE F C _ t1 _
              have q1 : evalL F C [.cs (PyData.str (S [97, 98, 99]))] t1 = some ([⟨.im, .str (S [97, 98, 99])⟩], t1) := by simp only [sizeLine, List.length_cons, List.length_nil, Nat.zero_add, okSL, okS, okE, okEL, okC, okO, runL, run, eval, evalL, evalC, putR, binD, addD, cmpD, b1D, b2D, isiD, subD, lenD, itemsD, ltD, lockR, unlockR, putS, pinned, isIm, optI, setP1, setP2, setP3, at0, at1, at2, at3, at4, decide_eq_true_eq, decide_eq_false_iff_not, okT, bindT, eqInt, eqBool, eqStr, eqNone, List.getElem?_cons_zero, List.getElem?_cons_succ, List.set_cons_zero, List.set_cons_succ, Option.some.injEq, exists_eq_left', exists_eq_left, exists_eq_right, exists_eq_right', and_true, true_and, and_false, false_and, or_true, true_or, or_false, false_or, if_true, if_false, List.all_cons, List.all_nil, List.map_cons, List.map_nil, Bool.and_true, Bool.true_and, Bool.and_false, Bool.false_and, reduceCtorEq, ne_eq, not_true, not_false_eq_true, forall_const, PyData.bool.injEq, PyData.int.injEq, PyData.str.injEq, PyData.list.injEq, PyData.tuple.injEq, Bool.false_eq_true, Bool.not_true, Bool.not_false, decide_true, decide_false, eq_self, exists_eq, Bool.not_eq_true,  forall_eq', forall_eq, false_implies, true_implies, Option.map_some, Option.map_none, imp_self, implies_true, Bool.true_eq_false, Bool.true_or, Bool.or_true, Bool.false_or, Bool.or_false, ↓reduceIte, Int.reduceLT, Int.reduceLE, Int.reducePow, Int.reduceNeg, Int.reduceAdd, Int.reduceMul, Int.reduceSub, Int.reduceEq, Nat.reduceAdd, Nat.reducePow, Nat.reduceLT, Nat.reduceMul, Nat.reduceSub, Nat.reduceLeDiff, Nat.reduceEqDiff, and_self, or_self]
              have q2 : itD .ex [⟨.im, .str (S [97, 98, 99])⟩] = some abcs := rfl
              refine p_comp (s0 := t1) (fun _ => true) (nxt (.str (S w))) q1 rfl q2 (by decide) (by subst g2; rfl) (by subst g2; rfl) (by subst g2; rfl) ?_ ?_
              · intro c hc
                have : ∃ y : Nat, c = .str ⟨#[y]⟩ := by
                  simp only [abcs, List.mem_cons, List.mem_nil_iff, or_false] at hc
                  rcases hc with rfl | rfl | rfl <;> exact ⟨_, rfl⟩
                obtain ⟨y, rfl⟩ := this
                have ea : addD (.str (S w)) (.str ⟨#[y]⟩) = some ⟨.im, .str (S w ++ ⟨#[y]⟩)⟩ := by
                  have := addS (a := w) (b := [y]) (by rw [hwl]; simp only [List.length_cons, List.length_nil]; omega)
                  rw [← S_app] at this
                  exact this
                subst g2
                simp only [sizeLine, List.length_cons, List.length_nil, Nat.zero_add, okSL, okS, okE, okEL, okC, okO, runL, run, eval, evalL, evalC, putR, binD, cmpD, b1D, b2D, isiD, subD, itemsD, lockR, unlockR, putS, pinned, isIm, optI, setP1, setP2, setP3, at0, at1, at2, at3, at4, decide_eq_true_eq, decide_eq_false_iff_not, okT, bindT, eqInt, eqBool, eqStr, eqNone, List.getElem?_cons_zero, List.getElem?_cons_succ, List.set_cons_zero, List.set_cons_succ, Option.some.injEq, exists_eq_left', exists_eq_left, exists_eq_right, exists_eq_right', and_true, true_and, and_false, false_and, or_true, true_or, or_false, false_or, if_true, if_false, List.all_cons, List.all_nil, List.map_cons, List.map_nil, Bool.and_true, Bool.true_and, Bool.and_false, Bool.false_and, reduceCtorEq, ne_eq, not_true, not_false_eq_true, forall_const, PyData.bool.injEq, PyData.int.injEq, PyData.str.injEq, PyData.list.injEq, PyData.tuple.injEq, Bool.false_eq_true, Bool.not_true, Bool.not_false, decide_true, decide_false, eq_self, exists_eq, Bool.not_eq_true,  forall_eq', forall_eq, false_implies, true_implies, Option.map_some, Option.map_none, imp_self, implies_true, Bool.true_eq_false, Bool.true_or, Bool.or_true, Bool.false_or, Bool.or_false, ↓reduceIte, Int.reduceLT, Int.reduceLE, Int.reducePow, Int.reduceNeg, Int.reduceAdd, Int.reduceMul, Int.reduceSub, Int.reduceEq, Nat.reduceAdd, Nat.reducePow, Nat.reduceLT, Nat.reduceMul, Nat.reduceSub, Nat.reduceLeDiff, Nat.reduceEqDiff, and_self, or_self, ea]
                exact ⟨rfl, rfl, rfl⟩
              · have eN : (abcs.filter fun _ => true).map (nxt (.str (S w))) = txts (nextW [w]) := by
                  have := nxt_all [w]
                  rw [show (abcs.filter fun _ => true) = abcs from rfl]
                  simpa [txts, nextW] using this
                have hlen : (nextW ((Wn i).take j)).length + (nextW [w]).length ≤ 16777216 := by
                  rw [nextW_len, nextW_len, List.length_take]
                  simp only [List.length_cons, List.length_nil]
                  omega
                refine ⟨⟨.fr, .list (txts (nextW ((Wn i).take j) ++ nextW [w]))⟩, ?_, rfl, ?_⟩
                · show addD (.list (txts (nextW ((Wn i).take j)))) (.list ((abcs.filter fun _ => true).map (nxt (.str (S w))))) = _
                  rw [eN]
                  exact addL hlen
                · have e9 : nextW ((Wn i).take j) ++ nextW [w] = nextW ((Wn i).take (j + 1)) := by
                    rw [htk]
                    unfold nextW
                    rw [List.flatMap_append]
                  rw [e9]
                  subst g2
                  refine ⟨_, rfl, fun _ => ?_, fun z => absurd rfl z⟩
                  exact lastQ ⟨rfl, _, .inr ⟨_, rfl⟩, rfl⟩
          · rintro t ⟨c, hc, rfl⟩
            refine ⟨rfl, c, hc, ?_⟩
            rw [txts, List.length_map, List.take_length]
            rfl
        · rintro t ⟨c, hc, rfl⟩
          have hup : (Wup i).length ≤ 3 ^ 10 := Nat.le_trans (Wup_count i) (pow3_le (by omega))
          have h310 : (3 : Nat) ^ 10 = 59049 := by decide
          have hnx : (Wn (i + 1)).length ≤ 3 ^ 10 := by rw [Wn_count]; exact pow3_le (by omega)
          have ea := addL (a := Wup i) (b := Wn (i + 1)) (by omega)
          refine step (s1 := [.im (.int z), .im (.list (txts (Wup i))), .im (.list (txts (Wn (i + 1)))), .im (.int y), .im (.list (txts (Wn (i + 1)))), c, .no]) (by simp only [sizeLine, List.length_cons, List.length_nil, Nat.zero_add, okSL, okS, okE, okEL, okC, okO, runL, run, eval, evalL, evalC, putR, binD, addD, cmpD, b1D, b2D, isiD, subD, lenD, itemsD, ltD, lockR, unlockR, putS, pinned, isIm, optI, setP1, setP2, setP3, at0, at1, at2, at3, at4, decide_eq_true_eq, decide_eq_false_iff_not, okT, bindT, eqInt, eqBool, eqStr, eqNone, List.getElem?_cons_zero, List.getElem?_cons_succ, List.set_cons_zero, List.set_cons_succ, Option.some.injEq, exists_eq_left', exists_eq_left, exists_eq_right, exists_eq_right', and_true, true_and, and_false, false_and, or_true, true_or, or_false, false_or, if_true, if_false, List.all_cons, List.all_nil, List.map_cons, List.map_nil, Bool.and_true, Bool.true_and, Bool.and_false, Bool.false_and, reduceCtorEq, ne_eq, not_true, not_false_eq_true, forall_const, PyData.bool.injEq, PyData.int.injEq, PyData.str.injEq, PyData.list.injEq, PyData.tuple.injEq, Bool.false_eq_true, Bool.not_true, Bool.not_false, decide_true, decide_false, eq_self, exists_eq, Bool.not_eq_true,  forall_eq', forall_eq, false_implies, true_implies, Option.map_some, Option.map_none, imp_self, implies_true, Bool.true_eq_false, Bool.true_or, Bool.or_true, Bool.false_or, Bool.or_false, ↓reduceIte, Int.reduceLT, Int.reduceLE, Int.reducePow, Int.reduceNeg, Int.reduceAdd, Int.reduceMul, Int.reduceSub, Int.reduceEq, Nat.reduceAdd, Nat.reducePow, Nat.reduceLT, Nat.reduceMul, Nat.reduceSub, Nat.reduceLeDiff, Nat.reduceEqDiff, and_self, or_self]) ?_
          refine step (s1 := [.im (.int z), .im (.list (txts (Wup (i + 1)))), .im (.list (txts (Wn (i + 1)))), .im (.int y), .im (.list (txts (Wn (i + 1)))), c, .no]) (by simp only [sizeLine, List.length_cons, List.length_nil, Nat.zero_add, okSL, okS, okE, okEL, okC, okO, runL, run, eval, evalL, evalC, putR, binD, cmpD, b1D, b2D, isiD, subD, itemsD, lockR, unlockR, putS, pinned, isIm, optI, setP1, setP2, setP3, at0, at1, at2, at3, at4, decide_eq_true_eq, decide_eq_false_iff_not, okT, bindT, eqInt, eqBool, eqStr, eqNone, List.getElem?_cons_zero, List.getElem?_cons_succ, List.set_cons_zero, List.set_cons_succ, Option.some.injEq, exists_eq_left', exists_eq_left, exists_eq_right, exists_eq_right', and_true, true_and, and_false, false_and, or_true, true_or, or_false, false_or, if_true, if_false, List.all_cons, List.all_nil, List.map_cons, List.map_nil, Bool.and_true, Bool.true_and, Bool.and_false, Bool.false_and, reduceCtorEq, ne_eq, not_true, not_false_eq_true, forall_const, PyData.bool.injEq, PyData.int.injEq, PyData.str.injEq, PyData.list.injEq, PyData.tuple.injEq, Bool.false_eq_true, Bool.not_true, Bool.not_false, decide_true, decide_false, eq_self, exists_eq, Bool.not_eq_true,  forall_eq', forall_eq, false_implies, true_implies, Option.map_some, Option.map_none, imp_self, implies_true, Bool.true_eq_false, Bool.true_or, Bool.or_true, Bool.false_or, Bool.or_false, ↓reduceIte, Int.reduceLT, Int.reduceLE, Int.reducePow, Int.reduceNeg, Int.reduceAdd, Int.reduceMul, Int.reduceSub, Int.reduceEq, Nat.reduceAdd, Nat.reducePow, Nat.reduceLT, Nat.reduceMul, Nat.reduceSub, Nat.reduceLeDiff, Nat.reduceEqDiff, and_self, or_self, ea]; rfl) ?_
          exact lastQ ⟨rfl, _, _, _, rfl, .inr ⟨_, rfl⟩, .inr ⟨_, rfl⟩, hc⟩
    · rintro t ⟨a, b, c, rfl, _⟩
      rw [rng_len, hz, Int.sub_zero, Int.toNat_natCast]
      exact ⟨rfl, _, _, _, _, _, rfl⟩
  · rintro t ⟨a, b, c, d, e, rfl⟩
    refine stepR (f := .rt _) (by simp only [sizeLine, List.length_cons, List.length_nil, Nat.zero_add, okSL, okS, okE, okEL, okC, okO, runL, run, eval, evalL, evalC, putR, binD, addD, cmpD, b1D, b2D, isiD, subD, lenD, itemsD, ltD, lockR, unlockR, putS, pinned, isIm, optI, setP1, setP2, setP3, at0, at1, at2, at3, at4, decide_eq_true_eq, decide_eq_false_iff_not, okT, bindT, eqInt, eqBool, eqStr, eqNone, List.getElem?_cons_zero, List.getElem?_cons_succ, List.set_cons_zero, List.set_cons_succ, Option.some.injEq, exists_eq_left', exists_eq_left, exists_eq_right, exists_eq_right', and_true, true_and, and_false, false_and, or_true, true_or, or_false, false_or, if_true, if_false, List.all_cons, List.all_nil, List.map_cons, List.map_nil, Bool.and_true, Bool.true_and, Bool.and_false, Bool.false_and, reduceCtorEq, ne_eq, not_true, not_false_eq_true, forall_const, PyData.bool.injEq, PyData.int.injEq, PyData.str.injEq, PyData.list.injEq, PyData.tuple.injEq, Bool.false_eq_true, Bool.not_true, Bool.not_false, decide_true, decide_false, eq_self, exists_eq, Bool.not_eq_true,  forall_eq', forall_eq, false_implies, true_implies, Option.map_some, Option.map_none, imp_self, implies_true, Bool.true_eq_false, Bool.true_or, Bool.or_true, Bool.false_or, Bool.or_false, ↓reduceIte, Int.reduceLT, Int.reduceLE, Int.reducePow, Int.reduceNeg, Int.reduceAdd, Int.reduceMul, Int.reduceSub, Int.reduceEq, Nat.reduceAdd, Nat.reducePow, Nat.reduceLT, Nat.reduceMul, Nat.reduceSub, Nat.reduceLeDiff, Nat.reduceEqDiff, and_self, or_self]; rfl) (fun z => nomatch z) rfl
end
end Ev

set_option autoImplicit false
/-! K01d: the law. -/
namespace Ev
open PySem
open L2 (atI ixN)
section
variable {F : Nat → Fn} {C : Nat → PyData}
theorem putI {s : Stt} {i : Nat} {k x : Sl} (h : s[i]? = some k) (hk : Slt k) : putS s i x = some (s.set i x) := by
  have hp : pinned s i = false := by
    cases i with
    | succ i => cases s <;> rfl
    | zero =>
      cases s with
      | nil => rfl
      | cons a t =>
        rw [List.getElem?_cons_zero] at h
        cases h
        rcases hk with rfl | ⟨d, rfl⟩ <;> rfl
  unfold putS
  rw [h]
  rcases hk with rfl | ⟨d, rfl⟩ <;> simp only [hp] <;> rfl
theorem stepSet {s s1 : Stt} {i : Nat} {e : Ex} {r : Rs} {k : Sl} {is : List Sx} {Q : Fl → Stt → Prop} (he : eval F C e s = some (r, s1)) (hi : isIm r = true) (hk : s1[i]? = some k) (hs : Slt k) (h : okSL F C is (s1.set i (.im r.d)) Q) : okSL F C (.set i false e :: is) s Q := by
  refine step (s1 := s1.set i (.im r.d)) ?_ h
  simp only [run, he, putR, hi, putI hk hs, Bool.false_eq_true, if_false, if_true, Option.map_some]
theorem stepPar {s s1 s2 : Stt} {i j : Nat} {a b : Ex} {ra rb : Rs} {k k' : Sl} {is : List Sx} {Q : Fl → Stt → Prop} (ha : eval F C a s = some (ra, s1)) (hb : eval F C b s1 = some (rb, s2)) (hi : isIm ra = true) (hj : isIm rb = true) (hk : s2[i]? = some k) (hs : Slt k) (hk' : (s2.set i (.im ra.d))[j]? = some k') (hs' : Slt k')
    (h : okSL F C is ((s2.set i (.im ra.d)).set j (.im rb.d)) Q) : okSL F C (.par i j false false a b :: is) s Q := by
  refine step (s1 := (s2.set i (.im ra.d)).set j (.im rb.d)) ?_ h
  simp only [run, ha, hb, putR, hi, hj, putI hk hs, putI hk' hs', Bool.not_false, Bool.and_self, if_true, Option.map_some]
theorem okT_n {s : Stt} {i : Nat} {d : PyData} {k : Sl} {Q : Stt → Prop} (hk : s[i]? = some k) (hs : Slt k) (h : Q (s.set i (.im d))) : okT (.n i) d s Q := by
  unfold okT bindT
  simp only [putI hk hs]
  exact h
def ir__law_odd_values : List Sx := [.set 0 false (.tup []),
  .for (.n 1) .r1 [(.cs (PyData.int 90))] [.set 0 false (.tup [(.nm 0)])],
  .ret (.lst [(.nm 0), (.tup [(.cs (PyData.str (S [112, 108, 97, 110]))), (.nm 0), (.nm 0)]), (.cs PyData.none), (.cs (PyData.int 0)), (.cs (PyData.int 1)), (.cs (PyData.bool true)), (.cs (PyData.bool false)), (.cs (PyData.str (S []))), (.cs (PyData.str (S [120]))), (.tup []), (.lst []), (.dic false []), (.tup [(.tup [])]), (.tup [(.tup []), (.tup [])]), (.tup [(.cs (PyData.int 0))]), (.tup [(.cs (PyData.int 1)), (.cs (PyData.int 2))]), (.tup [(.cs (PyData.str (S [120])))]), (.tup [(.lst [])]), (.dic false [(.cs (PyData.str (S [97]))), (.cs (PyData.int 1))]), (.tup [(.cs PyData.none)]), (.tup [(.tup [(.tup [])])]), (.cs (PyData.int (-1)))])]
theorem shrt_of {d : PyData} (h : ∀ x, d ≠ .str x) : Shrt d := fun x e => absurd e (h x)
theorem shrt_S {w : List Nat} (h : w.length ≤ 1000000) : Shrt (.str (S w)) := fun x e => by
  cases e
  rw [S_len]
  exact h
def oddL (d : PyData) : List PyData := [d, .tuple [.str (S [112, 108, 97, 110]), d, d], .none, .int 0, .int 1, .bool true, .bool false, .str (S []), .str (S [120]), .tuple [], .list [], .dict [], .tuple [.tuple []], .tuple [.tuple [], .tuple []], .tuple [.int 0], .tuple [.int 1, .int 2], .tuple [.str (S [120])], .tuple [.list []], .dict [(.str (S [97]), .int 1)], .tuple [.none], .tuple [.tuple [.tuple []]], .int (-1)]
theorem oddL_shrt (ys : List PyData) : ∀ x ∈ oddL (.tuple ys), Shrt x := by
  intro x hx
  simp only [oddL, List.mem_cons, List.mem_nil_iff, or_false] at hx
  rcases hx with rfl | rfl | rfl | rfl | rfl | rfl | rfl | rfl | rfl | rfl | rfl | rfl | rfl | rfl | rfl | rfl | rfl | rfl | rfl | rfl | rfl | rfl
  all_goals first | exact shrt_S (by decide) | exact shrt_of (fun _ z => nomatch z)
theorem odd_sem : ∃ xs, semOf F C 2 false false ir__law_odd_values [] = some (.list xs, .none) ∧ xs.length ≤ 100 ∧ ∀ x ∈ xs, Shrt x := by
  have key : ∃ r q, semOf F C 2 false false ir__law_odd_values [] = some (r, q) ∧ q = .none ∧ ∃ xs, r = .list xs ∧ xs.length ≤ 100 ∧ ∀ x ∈ xs, Shrt x := by
    refine sem_ok ?_
    unfold ir__law_odd_values
    have e2 : itD .r1 [⟨.im, .int 90⟩] = some (rng 0 90) := lenItd (by decide) (by decide)
    show okSL F C _ [.no, .no] _
    generalize rng 0 90 = rr at e2
    generalize (PyData.int 90) = N at e2 ⊢
    have h1 : run F C (.set 0 false (.tup [])) [.no, .no] = some (.nx, [.im (.tuple []), .no]) := by simp only [sizeLine, List.length_cons, List.length_nil, Nat.zero_add, okSL, okS, okE, okEL, okC, okO, runL, run, eval, evalL, evalC, putR, binD, addD, cmpD, b1D, b2D, isiD, subD, lenD, itemsD, ltD, lockR, unlockR, putS, pinned, isIm, optI, setP1, setP2, setP3, at0, at1, at2, at3, at4, decide_eq_true_eq, decide_eq_false_iff_not, okT, bindT, eqInt, eqBool, eqStr, eqNone, List.getElem?_cons_zero, List.getElem?_cons_succ, List.set_cons_zero, List.set_cons_succ, Option.some.injEq, exists_eq_left', exists_eq_left, exists_eq_right, exists_eq_right', and_true, true_and, and_false, false_and, or_true, true_or, or_false, false_or, if_true, if_false, List.all_cons, List.all_nil, List.map_cons, List.map_nil, Bool.and_true, Bool.true_and, Bool.and_false, Bool.false_and, reduceCtorEq, ne_eq, not_true, not_false_eq_true, forall_const, PyData.bool.injEq, PyData.int.injEq, PyData.str.injEq, PyData.list.injEq, PyData.tuple.injEq, Bool.false_eq_true, Bool.not_true, Bool.not_false, decide_true, decide_false, eq_self, exists_eq, Bool.not_eq_true,  forall_eq', forall_eq, false_implies, true_implies, Option.map_some, Option.map_none, imp_self, implies_true, Bool.true_eq_false, Bool.true_or, Bool.or_true, Bool.false_or, Bool.or_false, ↓reduceIte, Int.reduceLT, Int.reduceLE, Int.reducePow, Int.reduceNeg, Int.reduceAdd, Int.reduceMul, Int.reduceSub, Int.reduceEq, Nat.reduceAdd, Nat.reducePow, Nat.reduceLT, Nat.reduceMul, Nat.reduceSub, Nat.reduceLeDiff, Nat.reduceEqDiff, and_self, or_self]
    refine step h1 ?_
    refine stepN (Q0 := fun t => ∃ ys k, t = [.im (.tuple ys), k]) ?_ ?_
    · have e1 : evalL F C [.cs N] [.im (.tuple []), .no] = some ([⟨.im, N⟩], [.im (.tuple []), .no]) := by simp only [sizeLine, List.length_cons, List.length_nil, Nat.zero_add, okSL, okS, okE, okEL, okC, okO, runL, run, eval, evalL, evalC, putR, binD, addD, cmpD, b1D, b2D, isiD, subD, lenD, itemsD, ltD, lockR, unlockR, putS, pinned, isIm, optI, setP1, setP2, setP3, at0, at1, at2, at3, at4, decide_eq_true_eq, decide_eq_false_iff_not, okT, bindT, eqInt, eqBool, eqStr, eqNone, List.getElem?_cons_zero, List.getElem?_cons_succ, List.set_cons_zero, List.set_cons_succ, Option.some.injEq, exists_eq_left', exists_eq_left, exists_eq_right, exists_eq_right', and_true, true_and, and_false, false_and, or_true, true_or, or_false, false_or, if_true, if_false, List.all_cons, List.all_nil, List.map_cons, List.map_nil, Bool.and_true, Bool.true_and, Bool.and_false, Bool.false_and, reduceCtorEq, ne_eq, not_true, not_false_eq_true, forall_const, PyData.bool.injEq, PyData.int.injEq, PyData.str.injEq, PyData.list.injEq, PyData.tuple.injEq, Bool.false_eq_true, Bool.not_true, Bool.not_false, decide_true, decide_false, eq_self, exists_eq, Bool.not_eq_true,  forall_eq', forall_eq, false_implies, true_implies, Option.map_some, Option.map_none, imp_self, implies_true, Bool.true_eq_false, Bool.true_or, Bool.or_true, Bool.false_or, Bool.or_false, ↓reduceIte, Int.reduceLT, Int.reduceLE, Int.reducePow, Int.reduceNeg, Int.reduceAdd, Int.reduceMul, Int.reduceSub, Int.reduceEq, Nat.reduceAdd, Nat.reducePow, Nat.reduceLT, Nat.reduceMul, Nat.reduceSub, Nat.reduceLeDiff, Nat.reduceEqDiff, and_self, or_self]
      refine l_forN e1 e2 (fun i t => ∃ ys k, t = [.im (.tuple ys), k] ∧ Slt k) ⟨_, _, rfl, .inl rfl⟩ ?_ ?_
      · rintro i t hi ⟨ys, k, rfl, hk⟩
        refine okT_n rfl hk ?_
        simp only [sizeLine, List.length_cons, List.length_nil, Nat.zero_add, okSL, okS, okE, okEL, okC, okO, runL, run, eval, evalL, evalC, putR, binD, addD, cmpD, b1D, b2D, isiD, subD, lenD, itemsD, ltD, lockR, unlockR, putS, pinned, isIm, optI, setP1, setP2, setP3, at0, at1, at2, at3, at4, decide_eq_true_eq, decide_eq_false_iff_not, okT, bindT, eqInt, eqBool, eqStr, eqNone, List.getElem?_cons_zero, List.getElem?_cons_succ, List.set_cons_zero, List.set_cons_succ, Option.some.injEq, exists_eq_left', exists_eq_left, exists_eq_right, exists_eq_right', and_true, true_and, and_false, false_and, or_true, true_or, or_false, false_or, if_true, if_false, List.all_cons, List.all_nil, List.map_cons, List.map_nil, Bool.and_true, Bool.true_and, Bool.and_false, Bool.false_and, reduceCtorEq, ne_eq, not_true, not_false_eq_true, forall_const, PyData.bool.injEq, PyData.int.injEq, PyData.str.injEq, PyData.list.injEq, PyData.tuple.injEq, Bool.false_eq_true, Bool.not_true, Bool.not_false, decide_true, decide_false, eq_self, exists_eq, Bool.not_eq_true,  forall_eq', forall_eq, false_implies, true_implies, Option.map_some, Option.map_none, imp_self, implies_true, Bool.true_eq_false, Bool.true_or, Bool.or_true, Bool.false_or, Bool.or_false, ↓reduceIte, Int.reduceLT, Int.reduceLE, Int.reducePow, Int.reduceNeg, Int.reduceAdd, Int.reduceMul, Int.reduceSub, Int.reduceEq, Nat.reduceAdd, Nat.reducePow, Nat.reduceLT, Nat.reduceMul, Nat.reduceSub, Nat.reduceLeDiff, Nat.reduceEqDiff, and_self, or_self]
        exact ⟨_, _, rfl, .inr ⟨_, rfl⟩⟩
      · rintro t ⟨ys, k, rfl, _⟩
        exact ⟨rfl, _, _, rfl⟩
    · rintro t ⟨ys, k, rfl⟩
      refine stepR (f := .rt (.list (oddL (.tuple ys)))) (s1 := [.im (.tuple ys), k]) (by simp only [sizeLine, List.length_cons, List.length_nil, Nat.zero_add, okSL, okS, okE, okEL, okC, okO, runL, run, eval, evalL, evalC, putR, binD, addD, cmpD, b1D, b2D, isiD, subD, lenD, itemsD, ltD, lockR, unlockR, putS, pinned, isIm, optI, setP1, setP2, setP3, at0, at1, at2, at3, at4, decide_eq_true_eq, decide_eq_false_iff_not, okT, bindT, eqInt, eqBool, eqStr, eqNone, List.getElem?_cons_zero, List.getElem?_cons_succ, List.set_cons_zero, List.set_cons_succ, Option.some.injEq, exists_eq_left', exists_eq_left, exists_eq_right, exists_eq_right', and_true, true_and, and_false, false_and, or_true, true_or, or_false, false_or, if_true, if_false, List.all_cons, List.all_nil, List.map_cons, List.map_nil, Bool.and_true, Bool.true_and, Bool.and_false, Bool.false_and, reduceCtorEq, ne_eq, not_true, not_false_eq_true, forall_const, PyData.bool.injEq, PyData.int.injEq, PyData.str.injEq, PyData.list.injEq, PyData.tuple.injEq, Bool.false_eq_true, Bool.not_true, Bool.not_false, decide_true, decide_false, eq_self, exists_eq, Bool.not_eq_true,  forall_eq', forall_eq, false_implies, true_implies, Option.map_some, Option.map_none, imp_self, implies_true, Bool.true_eq_false, Bool.true_or, Bool.or_true, Bool.false_or, Bool.or_false, ↓reduceIte, Int.reduceLT, Int.reduceLE, Int.reducePow, Int.reduceNeg, Int.reduceAdd, Int.reduceMul, Int.reduceSub, Int.reduceEq, Nat.reduceAdd, Nat.reducePow, Nat.reduceLT, Nat.reduceMul, Nat.reduceSub, Nat.reduceLeDiff, Nat.reduceEqDiff, and_self, or_self, isKey, oddL]) (fun z => nomatch z) ⟨_, _, rfl, rfl, _, rfl, ?_, oddL_shrt ys⟩
      show 22 ≤ 100
      omega
  obtain ⟨r, q, e, rfl, xs, rfl, h1, h2⟩ := key
  exact ⟨xs, e, h1, h2⟩
def ir_law (f_is_word : Nat) (f_is_short : Nat) (f_common : Nat) (f_lead : Nat) (f_moved : Nat) (f_is_clash : Nat) (f_words_of : Nat) (f_words_up_to : Nat) (f_before : Nat) (f__law_same : Nat) (f__law_pool : Nat) (f__law_draw : Nat) (f__law_pick : Nat) (f__law_odd_values : Nat) (f__law_word : Nat) (f__law_words : Nat) (f__law_common : Nat) (f__law_lead : Nat) (f__law_is_word : Nat) (f__law_before : Nat) : List Sx := [.new 1 f__law_pool [(.nm 0)],
  .for (.n 2) .r1 [(.cs (PyData.int 5))] [.set 3 false (.calli f__law_word 1 [(.cs (PyData.int 4))]),
  .par 4 5 false false (.bin .add (.nm 3) (.calli f__law_word 1 [(.cs (PyData.int 5))])) (.bin .add (.nm 3) (.calli f__law_word 1 [(.cs (PyData.int 5))])),
  .set 6 false (.call f__law_common [(.nm 4), (.nm 5)]),
  .set 7 false (.tup [(.slc (.nm 4) [(.nm 6)] []), (.slc (.nm 5) [(.nm 6)] [])]),
  .ite (.not (.call f__law_same [(.lst [(.call f_common [(.nm 4), (.nm 5)]), (.call f_lead [(.nm 4), (.nm 5)]), (.call f_lead [(.nm 5), (.nm 4)])]), (.lst [(.nm 6), (.nm 7), (.tup [(.slc (.nm 5) [(.nm 6)] []), (.slc (.nm 4) [(.nm 6)] [])])])])) [.ret (.cs (PyData.bool false))] [],
  .ite (.not (.call f__law_same [(.call f_is_clash [(.nm 7)]), (.and (.cmp .ne (.sub (.nm 7) (.cs (PyData.int 0))) (.cs (PyData.str (S [])))) (.cmp .ne (.sub (.nm 7) (.cs (PyData.int 1))) (.cs (PyData.str (S [])))))])) [.ret (.cs (PyData.bool false))] [],
  .par 8 9 false false (.calli f__law_word 1 [(.cs (PyData.int 3))]) (.calli f__law_word 1 [(.cs (PyData.int 3))]),
  .ite (.not (.call f__law_same [(.call f_moved [(.nm 7), (.nm 8), (.nm 9)]), (.call f__law_lead [(.bin .add (.nm 4) (.nm 8)), (.bin .add (.nm 5) (.nm 9))])])) [.ret (.cs (PyData.bool false))] [],
  .ite (.not (.call f__law_same [(.lst [(.call f_before [(.nm 4), (.nm 5)]), (.call f_before [(.nm 5), (.nm 4)]), (.call f_before [(.nm 4), (.nm 4)])]), (.lst [(.call f__law_before [(.nm 4), (.nm 5)]), (.call f__law_before [(.nm 5), (.nm 4)]), (.cs (PyData.bool false))])])) [.ret (.cs (PyData.bool false))] [],
  .for (.n 10) .ex [(.bin .add (.lst [(.bin .add (.nm 4) (.calli f__law_pick 1 [(.lst [(.cs (PyData.str (S []))), (.cs (PyData.str (S [100]))), (.cs (PyData.str (S [65]))), (.cs (PyData.str (S [32]))), (.cs (PyData.str (S [97, 98]))), (.cs (PyData.str (S [97, 98, 99, 97, 98, 99, 97, 98, 99])))])])), (.slc (.nm 4) [] [(.cs (PyData.int 2))])]) (.call f__law_odd_values []))] [.set 11 false (.call f__law_is_word [(.nm 10)]),
  .ite (.not (.call f__law_same [(.lst [(.call f_is_word [(.nm 10)]), (.call f_is_short [(.nm 10)])]), (.lst [(.nm 11), (.and (.nm 11) (.cmp .le (.b1 .len (.nm 10)) (.cs (PyData.int 9))))])])) [.ret (.cs (PyData.bool false))] []]],
  .set 12 false (.calli f__law_draw 1 [(.cs (PyData.int 4))]),
  .set 13 false (.call f__law_words [(.nm 12)]),
  .ite (.or (.not (.call f__law_same [(.call f_words_up_to [(.nm 12)]), (.nm 13)])) (.not (.call f__law_same [(.call f_words_of [(.nm 12)]), (.comp (.nm 14) (.n 14) .ex [(.nm 13)] [(.cmp .eq (.b1 .len (.nm 14)) (.nm 12))] [("word", 14)])]))) [.ret (.cs (PyData.bool false))] [],
  .ret (.cs (PyData.bool true))]
def wP (as : List PyData) : Prop := ∃ m : Int, as = [.int m] ∧ 0 ≤ m ∧ m < 1000000
def wR (as : List PyData) (v : PyData) : Prop := ∃ (m : Int) (w : List Nat), as = [.int m] ∧ v = .str (S w) ∧ (w.length : Int) ≤ m
theorem Drw.wd {f : Nat} (h : Drw F f wP wR) {p : PyData} (hp : PoolOk p) {m : Int} (h0 : 0 ≤ m) (h1 : m < 1000000) : ∃ w p', (F f).sem [p, .int m] = some (.str (S w), p') ∧ (w.length : Int) ≤ m ∧ PoolOk p' := by
  obtain ⟨v, p', e, ⟨m', w, e1, rfl, h2⟩, h4⟩ := h.sem p [.int m] hp ⟨m, rfl, h0, h1⟩
  cases e1
  exact ⟨w, p', e, h2, h4⟩
structure Pur (F : Nat → Fn) (f : Nat) : Prop where
  io : (F f).io = false
  fr : (F f).fr = false
/-- what the law's body leans on -/
structure Env1 (F : Nat → Fn) : Prop where
  i0 : Isw F 0
  i1 : Pur F 1
  s1 : ∀ d, Shrt d → (F 1).sem [d] = some (.bool (shortB d), .none)
  i2 : Cmn F 2
  i3 : Led F 3
  i4 : Pur F 4
  s4 : ∀ x y a b : List Nat, x.length + a.length ≤ 1000000 → y.length + b.length ≤ 1000000 → (F 4).sem [.tuple [.str (S x), .str (S y)], .str (S a), .str (S b)] = some (leadD (x ++ a) (y ++ b), .none)
  i5 : Pur F 5
  s5 : ∀ x y : List Nat, (F 5).sem [.tuple [.str (S x), .str (S y)]] = some (.bool (!decide (x = []) && !decide (y = [])), .none)
  i6 : Wof F 6
  i7 : Pur F 7
  s7 : ∀ (n : Nat) (z : Int), n ≤ 9 → z = (n : Int) → (F 7).sem [.int z] = some (.list (txts (Wup n)), .none)
  i8 : Pur F 8
  s8 : ∀ a b : List Nat, a.length ≤ 1000000 → b.length ≤ 1000000 → (F 8).sem [.str (S a), .str (S b)] = some (.bool (befB a b), .none)
  i9 : Pur F 9
  s9 : ∀ d, plD d = true → dpD d < 10 → (F 9).sem [d, d] = some (.bool true, .none)
  f10 : (F 10).fr = true
  o10 : (F 10).io = false
  s10 : ∀ ns : List Int, ∃ p, (F 10).sem [.list (ns.map .int)] = some (p, .none) ∧ PoolOk p
  i12 : Drw F 12 dP dR
  i13 : Drw F 13 pP pR
  i14 : Pur F 14
  s14 : ∃ xs, (F 14).sem [] = some (.list xs, .none) ∧ xs.length ≤ 100 ∧ ∀ x ∈ xs, Shrt x
  i15 : Drw F 15 wP wR
  i16 : Pur F 16
  s16 : ∀ (n : Nat) (z : Int), n ≤ 9 → z = (n : Int) → (F 16).sem [.int z] = some (.list (txts (Wup n)), .none)
  i17 : Cmn F 17
  i18 : Led F 18
  i19 : Isw F 19
  i20 : Pur F 20
  s20 : ∀ a b : List Nat, a.length ≤ 1000000 → b.length ≤ 1000000 → (F 20).sem [.str (S a), .str (S b)] = some (.bool (befB a b), .none)
theorem pl_txts : ∀ l : List (List Nat), plL (txts l) = true
  | [] => rfl
  | a :: l => by
    show (plD (.str (S a)) && plL (txts l)) = true
    rw [pl_txts l]
    rfl
theorem dp_txts : ∀ l : List (List Nat), dpL (txts l) = 0
  | [] => rfl
  | a :: l => by
    show max (dpD (.str (S a))) (dpL (txts l)) = 0
    rw [dp_txts l]
    rfl
theorem filt_Wup : ∀ n : Nat, (Wup n).filter (fun w => decide (w.length = n)) = Wn n
  | 0 => by decide
  | n + 1 => by
    have h1 : ∀ m, ∀ w ∈ Wup m, w.length ≤ m := by
      intro m
      induction m with
      | zero => intro w hw; rw [Wn_len 0 w hw]; exact Nat.le_refl _
      | succ m ih =>
        intro w hw
        rcases List.mem_append.mp hw with h | h
        · exact Nat.le_succ_of_le (ih w h)
        · exact Nat.le_of_eq (Wn_len (m + 1) w h)
    show (Wup n ++ Wn (n + 1)).filter _ = _
    rw [List.filter_append]
    have e1 : (Wup n).filter (fun w => decide (w.length = n + 1)) = [] := by
      rw [List.filter_eq_nil_iff]
      intro w hw
      have := h1 n w hw
      simp
      omega
    have e2 : (Wn (n + 1)).filter (fun w => decide (w.length = n + 1)) = Wn (n + 1) := by
      rw [List.filter_eq_self]
      intro w hw
      simp [Wn_len (n + 1) w hw]
    rw [e1, e2]
    rfl
end
end Ev

set_option autoImplicit false
/-! K01e: the law's turn. -/
namespace Ev
open PySem
open L2 (atI ixN)
section
variable {F : Nat → Fn} {C : Nat → PyData}
def turnIr : List Sx := [.set 3 false (.calli 15 1 [(.cs (PyData.int 4))]),
  .par 4 5 false false (.bin .add (.nm 3) (.calli 15 1 [(.cs (PyData.int 5))])) (.bin .add (.nm 3) (.calli 15 1 [(.cs (PyData.int 5))])),
  .set 6 false (.call 17 [(.nm 4), (.nm 5)]),
  .set 7 false (.tup [(.slc (.nm 4) [(.nm 6)] []), (.slc (.nm 5) [(.nm 6)] [])]),
  .ite (.not (.call 9 [(.lst [(.call 2 [(.nm 4), (.nm 5)]), (.call 3 [(.nm 4), (.nm 5)]), (.call 3 [(.nm 5), (.nm 4)])]), (.lst [(.nm 6), (.nm 7), (.tup [(.slc (.nm 5) [(.nm 6)] []), (.slc (.nm 4) [(.nm 6)] [])])])])) [.ret (.cs (PyData.bool false))] [],
  .ite (.not (.call 9 [(.call 5 [(.nm 7)]), (.and (.cmp .ne (.sub (.nm 7) (.cs (PyData.int 0))) (.cs (PyData.str (S [])))) (.cmp .ne (.sub (.nm 7) (.cs (PyData.int 1))) (.cs (PyData.str (S [])))))])) [.ret (.cs (PyData.bool false))] [],
  .par 8 9 false false (.calli 15 1 [(.cs (PyData.int 3))]) (.calli 15 1 [(.cs (PyData.int 3))]),
  .ite (.not (.call 9 [(.call 4 [(.nm 7), (.nm 8), (.nm 9)]), (.call 18 [(.bin .add (.nm 4) (.nm 8)), (.bin .add (.nm 5) (.nm 9))])])) [.ret (.cs (PyData.bool false))] [],
  .ite (.not (.call 9 [(.lst [(.call 8 [(.nm 4), (.nm 5)]), (.call 8 [(.nm 5), (.nm 4)]), (.call 8 [(.nm 4), (.nm 4)])]), (.lst [(.call 20 [(.nm 4), (.nm 5)]), (.call 20 [(.nm 5), (.nm 4)]), (.cs (PyData.bool false))])])) [.ret (.cs (PyData.bool false))] [],
  .for (.n 10) .ex [(.bin .add (.lst [(.bin .add (.nm 4) (.calli 13 1 [(.lst [(.cs (PyData.str (S []))), (.cs (PyData.str (S [100]))), (.cs (PyData.str (S [65]))), (.cs (PyData.str (S [32]))), (.cs (PyData.str (S [97, 98]))), (.cs (PyData.str (S [97, 98, 99, 97, 98, 99, 97, 98, 99])))])])), (.slc (.nm 4) [] [(.cs (PyData.int 2))])]) (.call 14 []))] [.set 11 false (.call 19 [(.nm 10)]),
  .ite (.not (.call 9 [(.lst [(.call 0 [(.nm 10)]), (.call 1 [(.nm 10)])]), (.lst [(.nm 11), (.and (.nm 11) (.cmp .le (.b1 .len (.nm 10)) (.cs (PyData.int 9))))])])) [.ret (.cs (PyData.bool false))] []]]
def kSlt (l : List Sl) : Prop := ∀ k ∈ l, Slt k
theorem addDL {a b : List PyData} (h : a.length + b.length ≤ 16777216) : addD (.list a) (.list b) = some ⟨.fr, .list (a ++ b)⟩ := by
  unfold addD
  simp only
  rw [if_pos (by show _ ≤ 16777216; exact h)]
theorem law_turn (E : Env1 F) {sc p T : PyData} (hp : PoolOk p) {k3 k4 k5 k6 k7 k8 k9 k10 k11 : Sl} (h3 : Slt k3) (h4 : Slt k4) (h5 : Slt k5) (h6 : Slt k6) (h7 : Slt k7) (h8 : Slt k8) (h9 : Slt k9) (h10 : Slt k10) (h11 : Slt k11) :
    okSL F C turnIr [.im sc, .ow p, .im (T), k3, k4, k5, k6, k7, k8, k9, k10, k11, .no, .no, .no] fun f t => f = .nx ∧ ∃ p k3 k4 k5 k6 k7 k8 k9 k10 k11, t = [.im sc, .ow p, .im (T), k3, k4, k5, k6, k7, k8, k9, k10, k11, .no, .no, .no] ∧ PoolOk p ∧ Slt k3 ∧ Slt k4 ∧ Slt k5 ∧ Slt k6 ∧ Slt k7 ∧ Slt k8 ∧ Slt k9 ∧ Slt k10 ∧ Slt k11 := by
  unfold turnIr
  -- start = word
  obtain ⟨w0, p0, e0, l0, q0⟩ := E.i15.wd hp (m := 4) (by omega) (by omega)
  refine stepSet (r := ⟨.im, .str (S w0)⟩) (s1 := [.im sc, .ow p0, .im (T), k3, k4, k5, k6, k7, k8, k9, k10, k11, .no, .no, .no]) (by simp only [sizeLine, List.length_cons, List.length_nil, Nat.zero_add, okSL, okS, okE, okEL, okC, okO, runL, run, eval, evalL, evalC, putR, binD, addD, cmpD, b1D, b2D, isiD, subD, lenD, itemsD, ltD, lockR, unlockR, putS, pinned, isIm, optI, setP1, setP2, setP3, at0, at1, at2, at3, at4, decide_eq_true_eq, decide_eq_false_iff_not, okT, bindT, eqInt, eqBool, eqStr, eqNone, List.getElem?_cons_zero, List.getElem?_cons_succ, List.set_cons_zero, List.set_cons_succ, Option.some.injEq, exists_eq_left', exists_eq_left, exists_eq_right, exists_eq_right', and_true, true_and, and_false, false_and, or_true, true_or, or_false, false_or, if_true, if_false, List.all_cons, List.all_nil, List.map_cons, List.map_nil, Bool.and_true, Bool.true_and, Bool.and_false, Bool.false_and, reduceCtorEq, ne_eq, not_true, not_false_eq_true, forall_const, PyData.bool.injEq, PyData.int.injEq, PyData.str.injEq, PyData.list.injEq, PyData.tuple.injEq, Bool.false_eq_true, Bool.not_true, Bool.not_false, decide_true, decide_false, eq_self, exists_eq, Bool.not_eq_true,  forall_eq', forall_eq, false_implies, true_implies, Option.map_some, Option.map_none, imp_self, implies_true, Bool.true_eq_false, Bool.true_or, Bool.or_true, Bool.false_or, Bool.or_false, ↓reduceIte, Int.reduceLT, Int.reduceLE, Int.reducePow, Int.reduceNeg, Int.reduceAdd, Int.reduceMul, Int.reduceSub, Int.reduceEq, Nat.reduceAdd, Nat.reducePow, Nat.reduceLT, Nat.reduceMul, Nat.reduceSub, Nat.reduceLeDiff, Nat.reduceEqDiff, and_self, or_self, e0, E.i15.io, E.i15.fr]) rfl rfl h3 ?_
  show okSL F C _ [.im sc, .ow p0, .im (T), .im (.str (S w0)), k4, k5, k6, k7, k8, k9, k10, k11, .no, .no, .no] _
  -- one, two
  obtain ⟨w1, p1, e1, l1, q1⟩ := E.i15.wd q0 (m := 5) (by omega) (by omega)
  obtain ⟨w2, p2, e2, l2, q2⟩ := E.i15.wd q1 (m := 5) (by omega) (by omega)
  have a1 := addS (a := w0) (b := w1) (by omega)
  have a2 := addS (a := w0) (b := w2) (by omega)
  have la' : (w0 ++ w1).length ≤ 9 := by rw [List.length_append]; omega
  have lb' : (w0 ++ w2).length ≤ 9 := by rw [List.length_append]; omega
  generalize w0 ++ w1 = a at a1 la'
  generalize w0 ++ w2 = b at a2 lb'
  refine stepPar (ra := ⟨.im, .str (S a)⟩) (rb := ⟨.im, .str (S b)⟩) (s1 := [.im sc, .ow p1, .im (T), .im (.str (S w0)), k4, k5, k6, k7, k8, k9, k10, k11, .no, .no, .no]) (s2 := [.im sc, .ow p2, .im (T), .im (.str (S w0)), k4, k5, k6, k7, k8, k9, k10, k11, .no, .no, .no]) (by simp only [sizeLine, List.length_cons, List.length_nil, Nat.zero_add, okSL, okS, okE, okEL, okC, okO, runL, run, eval, evalL, evalC, putR, binD, cmpD, b1D, b2D, isiD, subD, itemsD, lockR, unlockR, putS, pinned, isIm, optI, setP1, setP2, setP3, at0, at1, at2, at3, at4, decide_eq_true_eq, decide_eq_false_iff_not, okT, bindT, eqInt, eqBool, eqStr, eqNone, List.getElem?_cons_zero, List.getElem?_cons_succ, List.set_cons_zero, List.set_cons_succ, Option.some.injEq, exists_eq_left', exists_eq_left, exists_eq_right, exists_eq_right', and_true, true_and, and_false, false_and, or_true, true_or, or_false, false_or, if_true, if_false, List.all_cons, List.all_nil, List.map_cons, List.map_nil, Bool.and_true, Bool.true_and, Bool.and_false, Bool.false_and, reduceCtorEq, ne_eq, not_true, not_false_eq_true, forall_const, PyData.bool.injEq, PyData.int.injEq, PyData.str.injEq, PyData.list.injEq, PyData.tuple.injEq, Bool.false_eq_true, Bool.not_true, Bool.not_false, decide_true, decide_false, eq_self, exists_eq, Bool.not_eq_true,  forall_eq', forall_eq, false_implies, true_implies, Option.map_some, Option.map_none, imp_self, implies_true, Bool.true_eq_false, Bool.true_or, Bool.or_true, Bool.false_or, Bool.or_false, ↓reduceIte, Int.reduceLT, Int.reduceLE, Int.reducePow, Int.reduceNeg, Int.reduceAdd, Int.reduceMul, Int.reduceSub, Int.reduceEq, Nat.reduceAdd, Nat.reducePow, Nat.reduceLT, Nat.reduceMul, Nat.reduceSub, Nat.reduceLeDiff, Nat.reduceEqDiff, and_self, or_self, a1, e1, E.i15.io, E.i15.fr]) (by simp only [sizeLine, List.length_cons, List.length_nil, Nat.zero_add, okSL, okS, okE, okEL, okC, okO, runL, run, eval, evalL, evalC, putR, binD, cmpD, b1D, b2D, isiD, subD, itemsD, lockR, unlockR, putS, pinned, isIm, optI, setP1, setP2, setP3, at0, at1, at2, at3, at4, decide_eq_true_eq, decide_eq_false_iff_not, okT, bindT, eqInt, eqBool, eqStr, eqNone, List.getElem?_cons_zero, List.getElem?_cons_succ, List.set_cons_zero, List.set_cons_succ, Option.some.injEq, exists_eq_left', exists_eq_left, exists_eq_right, exists_eq_right', and_true, true_and, and_false, false_and, or_true, true_or, or_false, false_or, if_true, if_false, List.all_cons, List.all_nil, List.map_cons, List.map_nil, Bool.and_true, Bool.true_and, Bool.and_false, Bool.false_and, reduceCtorEq, ne_eq, not_true, not_false_eq_true, forall_const, PyData.bool.injEq, PyData.int.injEq, PyData.str.injEq, PyData.list.injEq, PyData.tuple.injEq, Bool.false_eq_true, Bool.not_true, Bool.not_false, decide_true, decide_false, eq_self, exists_eq, Bool.not_eq_true,  forall_eq', forall_eq, false_implies, true_implies, Option.map_some, Option.map_none, imp_self, implies_true, Bool.true_eq_false, Bool.true_or, Bool.or_true, Bool.false_or, Bool.or_false, ↓reduceIte, Int.reduceLT, Int.reduceLE, Int.reducePow, Int.reduceNeg, Int.reduceAdd, Int.reduceMul, Int.reduceSub, Int.reduceEq, Nat.reduceAdd, Nat.reducePow, Nat.reduceLT, Nat.reduceMul, Nat.reduceSub, Nat.reduceLeDiff, Nat.reduceEqDiff, and_self, or_self, a2, e2, E.i15.io, E.i15.fr]) rfl rfl rfl h4 rfl h5 ?_
  show okSL F C _ [.im sc, .ow p2, .im (T), .im (.str (S w0)), .im (.str (S a)), .im (.str (S b)), k6, k7, k8, k9, k10, k11, .no, .no, .no] _
  -- many
  have c1 := E.i17.sem a b (by omega) (by omega)
  have c2 := E.i2.sem a b (by omega) (by omega)
  have d1 := E.i3.sem a b (by omega) (by omega)
  have d2 := E.i3.sem b a (by omega) (by omega)
  have sa := cutS_from (a := a) (n := lcp a b) (by omega) (lcp_le a b).1
  have sb := cutS_from (a := b) (n := lcp a b) (by omega) (lcp_le a b).2
  have ed1 : leadD a b = .tuple [.str (S (a.drop (lcp a b))), .str (S (b.drop (lcp a b)))] := rfl
  have ed2 : leadD b a = .tuple [.str (S (b.drop (lcp a b))), .str (S (a.drop (lcp a b)))] := by unfold leadD; rw [lcp_comm b a]
  have m1 := moved_lead (one := a) (two := b) (u := []) (v := [])
  generalize hl : ((lcp a b : Nat) : Int) = l at c1 c2 sa sb
  refine stepSet (r := ⟨.im, .int l⟩) (s1 := [.im sc, .ow p2, .im (T), .im (.str (S w0)), .im (.str (S a)), .im (.str (S b)), k6, k7, k8, k9, k10, k11, .no, .no, .no]) (by simp only [sizeLine, List.length_cons, List.length_nil, Nat.zero_add, okSL, okS, okE, okEL, okC, okO, runL, run, eval, evalL, evalC, putR, binD, addD, cmpD, b1D, b2D, isiD, subD, lenD, itemsD, ltD, lockR, unlockR, putS, pinned, isIm, optI, setP1, setP2, setP3, at0, at1, at2, at3, at4, decide_eq_true_eq, decide_eq_false_iff_not, okT, bindT, eqInt, eqBool, eqStr, eqNone, List.getElem?_cons_zero, List.getElem?_cons_succ, List.set_cons_zero, List.set_cons_succ, Option.some.injEq, exists_eq_left', exists_eq_left, exists_eq_right, exists_eq_right', and_true, true_and, and_false, false_and, or_true, true_or, or_false, false_or, if_true, if_false, List.all_cons, List.all_nil, List.map_cons, List.map_nil, Bool.and_true, Bool.true_and, Bool.and_false, Bool.false_and, reduceCtorEq, ne_eq, not_true, not_false_eq_true, forall_const, PyData.bool.injEq, PyData.int.injEq, PyData.str.injEq, PyData.list.injEq, PyData.tuple.injEq, Bool.false_eq_true, Bool.not_true, Bool.not_false, decide_true, decide_false, eq_self, exists_eq, Bool.not_eq_true,  forall_eq', forall_eq, false_implies, true_implies, Option.map_some, Option.map_none, imp_self, implies_true, Bool.true_eq_false, Bool.true_or, Bool.or_true, Bool.false_or, Bool.or_false, ↓reduceIte, Int.reduceLT, Int.reduceLE, Int.reducePow, Int.reduceNeg, Int.reduceAdd, Int.reduceMul, Int.reduceSub, Int.reduceEq, Nat.reduceAdd, Nat.reducePow, Nat.reduceLT, Nat.reduceMul, Nat.reduceSub, Nat.reduceLeDiff, Nat.reduceEqDiff, and_self, or_self, c1, E.i17.io, E.i17.fr]) rfl rfl h6 ?_
  show okSL F C _ [.im sc, .ow p2, .im (T), .im (.str (S w0)), .im (.str (S a)), .im (.str (S b)), .im (.int l), k7, k8, k9, k10, k11, .no, .no, .no] _
  -- pair
  have lx : (a.drop (lcp a b)).length ≤ 9 := by rw [List.length_drop]; omega
  have ly : (b.drop (lcp a b)).length ≤ 9 := by rw [List.length_drop]; omega
  have mv : ∀ u v : List Nat, leadD (a.drop (lcp a b) ++ u) (b.drop (lcp a b) ++ v) = leadD (a ++ u) (b ++ v) := fun u v => moved_lead
  generalize a.drop (lcp a b) = x at *
  generalize b.drop (lcp a b) = y at *
  refine stepSet (r := ⟨.im, .tuple [.str (S x), .str (S y)]⟩) (s1 := [.im sc, .ow p2, .im (T), .im (.str (S w0)), .im (.str (S a)), .im (.str (S b)), .im (.int l), k7, k8, k9, k10, k11, .no, .no, .no]) (by simp only [sizeLine, List.length_cons, List.length_nil, Nat.zero_add, okSL, okS, okE, okEL, okC, okO, runL, run, eval, evalL, evalC, putR, binD, addD, cmpD, b1D, b2D, isiD, subD, lenD, itemsD, ltD, lockR, unlockR, putS, pinned, isIm, optI, setP1, setP2, setP3, at0, at1, at2, at3, at4, decide_eq_true_eq, decide_eq_false_iff_not, okT, bindT, eqInt, eqBool, eqStr, eqNone, List.getElem?_cons_zero, List.getElem?_cons_succ, List.set_cons_zero, List.set_cons_succ, Option.some.injEq, exists_eq_left', exists_eq_left, exists_eq_right, exists_eq_right', and_true, true_and, and_false, false_and, or_true, true_or, or_false, false_or, if_true, if_false, List.all_cons, List.all_nil, List.map_cons, List.map_nil, Bool.and_true, Bool.true_and, Bool.and_false, Bool.false_and, reduceCtorEq, ne_eq, not_true, not_false_eq_true, forall_const, PyData.bool.injEq, PyData.int.injEq, PyData.str.injEq, PyData.list.injEq, PyData.tuple.injEq, Bool.false_eq_true, Bool.not_true, Bool.not_false, decide_true, decide_false, eq_self, exists_eq, Bool.not_eq_true,  forall_eq', forall_eq, false_implies, true_implies, Option.map_some, Option.map_none, imp_self, implies_true, Bool.true_eq_false, Bool.true_or, Bool.or_true, Bool.false_or, Bool.or_false, ↓reduceIte, Int.reduceLT, Int.reduceLE, Int.reducePow, Int.reduceNeg, Int.reduceAdd, Int.reduceMul, Int.reduceSub, Int.reduceEq, Nat.reduceAdd, Nat.reducePow, Nat.reduceLT, Nat.reduceMul, Nat.reduceSub, Nat.reduceLeDiff, Nat.reduceEqDiff, and_self, or_self, sa, sb]) rfl rfl h7 ?_
  show okSL F C _ [.im sc, .ow p2, .im (T), .im (.str (S w0)), .im (.str (S a)), .im (.str (S b)), .im (.int l), .im (.tuple [.str (S x), .str (S y)]), k8, k9, k10, k11, .no, .no, .no] _
  -- common, lead
  have s1 := E.s9 (.list [.int l, .tuple [.str (S x), .str (S y)], .tuple [.str (S y), .str (S x)]]) rfl (by simp [dpD, dpL])
  refine step (s1 := [.im sc, .ow p2, .im (T), .im (.str (S w0)), .im (.str (S a)), .im (.str (S b)), .im (.int l), .im (.tuple [.str (S x), .str (S y)]), k8, k9, k10, k11, .no, .no, .no]) (by simp only [sizeLine, List.length_cons, List.length_nil, Nat.zero_add, okSL, okS, okE, okEL, okC, okO, runL, run, eval, evalL, evalC, putR, binD, addD, cmpD, b1D, b2D, isiD, subD, lenD, itemsD, ltD, lockR, unlockR, putS, pinned, isIm, optI, setP1, setP2, setP3, at0, at1, at2, at3, at4, decide_eq_true_eq, decide_eq_false_iff_not, okT, bindT, eqInt, eqBool, eqStr, eqNone, List.getElem?_cons_zero, List.getElem?_cons_succ, List.set_cons_zero, List.set_cons_succ, Option.some.injEq, exists_eq_left', exists_eq_left, exists_eq_right, exists_eq_right', and_true, true_and, and_false, false_and, or_true, true_or, or_false, false_or, if_true, if_false, List.all_cons, List.all_nil, List.map_cons, List.map_nil, Bool.and_true, Bool.true_and, Bool.and_false, Bool.false_and, reduceCtorEq, ne_eq, not_true, not_false_eq_true, forall_const, PyData.bool.injEq, PyData.int.injEq, PyData.str.injEq, PyData.list.injEq, PyData.tuple.injEq, Bool.false_eq_true, Bool.not_true, Bool.not_false, decide_true, decide_false, eq_self, exists_eq, Bool.not_eq_true,  forall_eq', forall_eq, false_implies, true_implies, Option.map_some, Option.map_none, imp_self, implies_true, Bool.true_eq_false, Bool.true_or, Bool.or_true, Bool.false_or, Bool.or_false, ↓reduceIte, Int.reduceLT, Int.reduceLE, Int.reducePow, Int.reduceNeg, Int.reduceAdd, Int.reduceMul, Int.reduceSub, Int.reduceEq, Nat.reduceAdd, Nat.reducePow, Nat.reduceLT, Nat.reduceMul, Nat.reduceSub, Nat.reduceLeDiff, Nat.reduceEqDiff, and_self, or_self, c2, d1, d2, ed1, ed2, sa, sb, s1, E.i2.io, E.i2.fr, E.i3.io, E.i3.fr, E.i9.io, E.i9.fr]) ?_
  -- is_clash
  have s2 : ∀ z : Bool, (F 9).sem [.bool z, .bool z] = some (.bool true, .none) := fun z => E.s9 (.bool z) rfl (by simp [dpD])
  have cl := E.s5 x y
  refine step (s1 := [.im sc, .ow p2, .im (T), .im (.str (S w0)), .im (.str (S a)), .im (.str (S b)), .im (.int l), .im (.tuple [.str (S x), .str (S y)]), k8, k9, k10, k11, .no, .no, .no]) (by
    rcases Classical.propComplete (x = []) with hx | hx <;> rcases Classical.propComplete (y = []) with hy | hy
    all_goals simp only [sizeLine, List.length_cons, List.length_nil, Nat.zero_add, okSL, okS, okE, okEL, okC, okO, runL, run, eval, evalL, evalC, putR, binD, addD, cmpD, b1D, b2D, isiD, subD, lenD, itemsD, ltD, lockR, unlockR, putS, pinned, isIm, optI, setP1, setP2, setP3, at0, at1, at2, at3, at4, decide_eq_true_eq, decide_eq_false_iff_not, okT, bindT, eqInt, eqBool, eqStr, eqNone, List.getElem?_cons_zero, List.getElem?_cons_succ, List.set_cons_zero, List.set_cons_succ, Option.some.injEq, exists_eq_left', exists_eq_left, exists_eq_right, exists_eq_right', and_true, true_and, and_false, false_and, or_true, true_or, or_false, false_or, if_true, if_false, List.all_cons, List.all_nil, List.map_cons, List.map_nil, Bool.and_true, Bool.true_and, Bool.and_false, Bool.false_and, reduceCtorEq, ne_eq, not_true, not_false_eq_true, forall_const, PyData.bool.injEq, PyData.int.injEq, PyData.str.injEq, PyData.list.injEq, PyData.tuple.injEq, Bool.false_eq_true, Bool.not_true, Bool.not_false, decide_true, decide_false, eq_self, exists_eq, Bool.not_eq_true,  forall_eq', forall_eq, false_implies, true_implies, Option.map_some, Option.map_none, imp_self, implies_true, Bool.true_eq_false, Bool.true_or, Bool.or_true, Bool.false_or, Bool.or_false, ↓reduceIte, Int.reduceLT, Int.reduceLE, Int.reducePow, Int.reduceNeg, Int.reduceAdd, Int.reduceMul, Int.reduceSub, Int.reduceEq, Nat.reduceAdd, Nat.reducePow, Nat.reduceLT, Nat.reduceMul, Nat.reduceSub, Nat.reduceLeDiff, Nat.reduceEqDiff, and_self, or_self, cl, S_eq, hx, hy, s2, E.i5.io, E.i5.fr, E.i9.io, E.i9.fr]) ?_
  -- more, other
  obtain ⟨u, p3, e3, l3, q3⟩ := E.i15.wd q2 (m := 3) (by omega) (by omega)
  obtain ⟨v, p4, e4, l4, q4⟩ := E.i15.wd q3 (m := 3) (by omega) (by omega)
  refine stepPar (ra := ⟨.im, .str (S u)⟩) (rb := ⟨.im, .str (S v)⟩) (s1 := [.im sc, .ow p3, .im (T), .im (.str (S w0)), .im (.str (S a)), .im (.str (S b)), .im (.int l), .im (.tuple [.str (S x), .str (S y)]), k8, k9, k10, k11, .no, .no, .no]) (s2 := [.im sc, .ow p4, .im (T), .im (.str (S w0)), .im (.str (S a)), .im (.str (S b)), .im (.int l), .im (.tuple [.str (S x), .str (S y)]), k8, k9, k10, k11, .no, .no, .no]) (by simp only [sizeLine, List.length_cons, List.length_nil, Nat.zero_add, okSL, okS, okE, okEL, okC, okO, runL, run, eval, evalL, evalC, putR, binD, addD, cmpD, b1D, b2D, isiD, subD, lenD, itemsD, ltD, lockR, unlockR, putS, pinned, isIm, optI, setP1, setP2, setP3, at0, at1, at2, at3, at4, decide_eq_true_eq, decide_eq_false_iff_not, okT, bindT, eqInt, eqBool, eqStr, eqNone, List.getElem?_cons_zero, List.getElem?_cons_succ, List.set_cons_zero, List.set_cons_succ, Option.some.injEq, exists_eq_left', exists_eq_left, exists_eq_right, exists_eq_right', and_true, true_and, and_false, false_and, or_true, true_or, or_false, false_or, if_true, if_false, List.all_cons, List.all_nil, List.map_cons, List.map_nil, Bool.and_true, Bool.true_and, Bool.and_false, Bool.false_and, reduceCtorEq, ne_eq, not_true, not_false_eq_true, forall_const, PyData.bool.injEq, PyData.int.injEq, PyData.str.injEq, PyData.list.injEq, PyData.tuple.injEq, Bool.false_eq_true, Bool.not_true, Bool.not_false, decide_true, decide_false, eq_self, exists_eq, Bool.not_eq_true,  forall_eq', forall_eq, false_implies, true_implies, Option.map_some, Option.map_none, imp_self, implies_true, Bool.true_eq_false, Bool.true_or, Bool.or_true, Bool.false_or, Bool.or_false, ↓reduceIte, Int.reduceLT, Int.reduceLE, Int.reducePow, Int.reduceNeg, Int.reduceAdd, Int.reduceMul, Int.reduceSub, Int.reduceEq, Nat.reduceAdd, Nat.reducePow, Nat.reduceLT, Nat.reduceMul, Nat.reduceSub, Nat.reduceLeDiff, Nat.reduceEqDiff, and_self, or_self, e3, E.i15.io, E.i15.fr]) (by simp only [sizeLine, List.length_cons, List.length_nil, Nat.zero_add, okSL, okS, okE, okEL, okC, okO, runL, run, eval, evalL, evalC, putR, binD, addD, cmpD, b1D, b2D, isiD, subD, lenD, itemsD, ltD, lockR, unlockR, putS, pinned, isIm, optI, setP1, setP2, setP3, at0, at1, at2, at3, at4, decide_eq_true_eq, decide_eq_false_iff_not, okT, bindT, eqInt, eqBool, eqStr, eqNone, List.getElem?_cons_zero, List.getElem?_cons_succ, List.set_cons_zero, List.set_cons_succ, Option.some.injEq, exists_eq_left', exists_eq_left, exists_eq_right, exists_eq_right', and_true, true_and, and_false, false_and, or_true, true_or, or_false, false_or, if_true, if_false, List.all_cons, List.all_nil, List.map_cons, List.map_nil, Bool.and_true, Bool.true_and, Bool.and_false, Bool.false_and, reduceCtorEq, ne_eq, not_true, not_false_eq_true, forall_const, PyData.bool.injEq, PyData.int.injEq, PyData.str.injEq, PyData.list.injEq, PyData.tuple.injEq, Bool.false_eq_true, Bool.not_true, Bool.not_false, decide_true, decide_false, eq_self, exists_eq, Bool.not_eq_true,  forall_eq', forall_eq, false_implies, true_implies, Option.map_some, Option.map_none, imp_self, implies_true, Bool.true_eq_false, Bool.true_or, Bool.or_true, Bool.false_or, Bool.or_false, ↓reduceIte, Int.reduceLT, Int.reduceLE, Int.reducePow, Int.reduceNeg, Int.reduceAdd, Int.reduceMul, Int.reduceSub, Int.reduceEq, Nat.reduceAdd, Nat.reducePow, Nat.reduceLT, Nat.reduceMul, Nat.reduceSub, Nat.reduceLeDiff, Nat.reduceEqDiff, and_self, or_self, e4, E.i15.io, E.i15.fr]) rfl rfl rfl h8 rfl h9 ?_
  show okSL F C _ [.im sc, .ow p4, .im (T), .im (.str (S w0)), .im (.str (S a)), .im (.str (S b)), .im (.int l), .im (.tuple [.str (S x), .str (S y)]), .im (.str (S u)), .im (.str (S v)), k10, k11, .no, .no, .no] _
  -- moved
  have t4 := E.s4 x y u v (by omega) (by omega)
  rw [mv] at t4
  have t18 := E.i18.sem (a ++ u) (b ++ v) (by rw [List.length_append]; omega) (by rw [List.length_append]; omega)
  have b1 := addS (a := a) (b := u) (by omega)
  have b2 := addS (a := b) (b := v) (by omega)
  have s3 := E.s9 (leadD (a ++ u) (b ++ v)) rfl (by simp [leadD, dpD, dpL])
  refine step (s1 := [.im sc, .ow p4, .im (T), .im (.str (S w0)), .im (.str (S a)), .im (.str (S b)), .im (.int l), .im (.tuple [.str (S x), .str (S y)]), .im (.str (S u)), .im (.str (S v)), k10, k11, .no, .no, .no]) (by simp only [sizeLine, List.length_cons, List.length_nil, Nat.zero_add, okSL, okS, okE, okEL, okC, okO, runL, run, eval, evalL, evalC, putR, binD, cmpD, b1D, b2D, isiD, subD, itemsD, lockR, unlockR, putS, pinned, isIm, optI, setP1, setP2, setP3, at0, at1, at2, at3, at4, decide_eq_true_eq, decide_eq_false_iff_not, okT, bindT, eqInt, eqBool, eqStr, eqNone, List.getElem?_cons_zero, List.getElem?_cons_succ, List.set_cons_zero, List.set_cons_succ, Option.some.injEq, exists_eq_left', exists_eq_left, exists_eq_right, exists_eq_right', and_true, true_and, and_false, false_and, or_true, true_or, or_false, false_or, if_true, if_false, List.all_cons, List.all_nil, List.map_cons, List.map_nil, Bool.and_true, Bool.true_and, Bool.and_false, Bool.false_and, reduceCtorEq, ne_eq, not_true, not_false_eq_true, forall_const, PyData.bool.injEq, PyData.int.injEq, PyData.str.injEq, PyData.list.injEq, PyData.tuple.injEq, Bool.false_eq_true, Bool.not_true, Bool.not_false, decide_true, decide_false, eq_self, exists_eq, Bool.not_eq_true,  forall_eq', forall_eq, false_implies, true_implies, Option.map_some, Option.map_none, imp_self, implies_true, Bool.true_eq_false, Bool.true_or, Bool.or_true, Bool.false_or, Bool.or_false, ↓reduceIte, Int.reduceLT, Int.reduceLE, Int.reducePow, Int.reduceNeg, Int.reduceAdd, Int.reduceMul, Int.reduceSub, Int.reduceEq, Nat.reduceAdd, Nat.reducePow, Nat.reduceLT, Nat.reduceMul, Nat.reduceSub, Nat.reduceLeDiff, Nat.reduceEqDiff, and_self, or_self, t4, t18, b1, b2, s3, E.i4.io, E.i4.fr, E.i18.io, E.i18.fr, E.i9.io, E.i9.fr]) ?_
  -- before
  have f1 := E.s8 a b (by omega) (by omega)
  have f2 := E.s8 b a (by omega) (by omega)
  have f3 := E.s8 a a (by omega) (by omega)
  rw [befB_self] at f3
  have f4 := E.s20 a b (by omega) (by omega)
  have f5 := E.s20 b a (by omega) (by omega)
  have s4 := E.s9 (.list [.bool (befB a b), .bool (befB b a), .bool false]) rfl (by simp [dpD, dpL])
  refine step (s1 := [.im sc, .ow p4, .im (T), .im (.str (S w0)), .im (.str (S a)), .im (.str (S b)), .im (.int l), .im (.tuple [.str (S x), .str (S y)]), .im (.str (S u)), .im (.str (S v)), k10, k11, .no, .no, .no]) (by simp only [sizeLine, List.length_cons, List.length_nil, Nat.zero_add, okSL, okS, okE, okEL, okC, okO, runL, run, eval, evalL, evalC, putR, binD, addD, cmpD, b1D, b2D, isiD, subD, lenD, itemsD, ltD, lockR, unlockR, putS, pinned, isIm, optI, setP1, setP2, setP3, at0, at1, at2, at3, at4, decide_eq_true_eq, decide_eq_false_iff_not, okT, bindT, eqInt, eqBool, eqStr, eqNone, List.getElem?_cons_zero, List.getElem?_cons_succ, List.set_cons_zero, List.set_cons_succ, Option.some.injEq, exists_eq_left', exists_eq_left, exists_eq_right, exists_eq_right', and_true, true_and, and_false, false_and, or_true, true_or, or_false, false_or, if_true, if_false, List.all_cons, List.all_nil, List.map_cons, List.map_nil, Bool.and_true, Bool.true_and, Bool.and_false, Bool.false_and, reduceCtorEq, ne_eq, not_true, not_false_eq_true, forall_const, PyData.bool.injEq, PyData.int.injEq, PyData.str.injEq, PyData.list.injEq, PyData.tuple.injEq, Bool.false_eq_true, Bool.not_true, Bool.not_false, decide_true, decide_false, eq_self, exists_eq, Bool.not_eq_true,  forall_eq', forall_eq, false_implies, true_implies, Option.map_some, Option.map_none, imp_self, implies_true, Bool.true_eq_false, Bool.true_or, Bool.or_true, Bool.false_or, Bool.or_false, ↓reduceIte, Int.reduceLT, Int.reduceLE, Int.reducePow, Int.reduceNeg, Int.reduceAdd, Int.reduceMul, Int.reduceSub, Int.reduceEq, Nat.reduceAdd, Nat.reducePow, Nat.reduceLT, Nat.reduceMul, Nat.reduceSub, Nat.reduceLeDiff, Nat.reduceEqDiff, and_self, or_self, f1, f2, f3, f4, f5, s4, E.i8.io, E.i8.fr, E.i20.io, E.i20.fr, E.i9.io, E.i9.fr]) ?_
  -- the values
  obtain ⟨z, p5, e5, hz, q5⟩ := E.i13.pk q4 (xs := [.str (S []), .str (S [100]), .str (S [65]), .str (S [32]), .str (S [97, 98]), .str (S [97, 98, 99, 97, 98, 99, 97, 98, 99])]) (by decide) (by decide)
  have hz' : ∃ zz, z = .str (S zz) ∧ zz.length ≤ 9 := by
    simp only [List.mem_cons, List.mem_nil_iff, or_false] at hz
    rcases hz with rfl | rfl | rfl | rfl | rfl | rfl <;> exact ⟨_, rfl, by decide⟩
  obtain ⟨zz, rfl, lz⟩ := hz'
  obtain ⟨xs, ex, lxs, hxs⟩ := E.s14
  have b3 := addS (a := a) (b := zz) (by omega)
  have b4 := cutS_to (a := a) (n := 2) (by omega)
  have b5 := addDL (a := [.str (S (a ++ zz)), .str (S (a.take 2))]) (b := xs) (by simp only [List.length_cons, List.length_nil]; omega)
  have g1 : evalL F C [(.bin .add (.lst [(.bin .add (.nm 4) (.calli 13 1 [(.lst [(.cs (PyData.str (S []))), (.cs (PyData.str (S [100]))), (.cs (PyData.str (S [65]))), (.cs (PyData.str (S [32]))), (.cs (PyData.str (S [97, 98]))), (.cs (PyData.str (S [97, 98, 99, 97, 98, 99, 97, 98, 99])))])])), (.slc (.nm 4) [] [(.cs (PyData.int 2))])]) (.call 14 []))] [.im sc, .ow p4, .im (T), .im (.str (S w0)), .im (.str (S a)), .im (.str (S b)), .im (.int l), .im (.tuple [.str (S x), .str (S y)]), .im (.str (S u)), .im (.str (S v)), k10, k11, .no, .no, .no] = some ([⟨.fr, .list ([.str (S (a ++ zz)), .str (S (a.take 2))] ++ xs)⟩], [.im sc, .ow p5, .im (T), .im (.str (S w0)), .im (.str (S a)), .im (.str (S b)), .im (.int l), .im (.tuple [.str (S x), .str (S y)]), .im (.str (S u)), .im (.str (S v)), k10, k11, .no, .no, .no]) := by
    have b4' : slcD (.str (S a)) none (some 2) = some ⟨.im, .str (S (a.take 2))⟩ := b4
    simp only [sizeLine, List.length_cons, List.length_nil, Nat.zero_add, okSL, okS, okE, okEL, okC, okO, runL, run, eval, evalL, evalC, putR, binD, cmpD, b1D, b2D, isiD, subD, itemsD, lockR, unlockR, putS, pinned, isIm, optI, setP1, setP2, setP3, at0, at1, at2, at3, at4, decide_eq_true_eq, decide_eq_false_iff_not, okT, bindT, eqInt, eqBool, eqStr, eqNone, List.getElem?_cons_zero, List.getElem?_cons_succ, List.set_cons_zero, List.set_cons_succ, Option.some.injEq, exists_eq_left', exists_eq_left, exists_eq_right, exists_eq_right', and_true, true_and, and_false, false_and, or_true, true_or, or_false, false_or, if_true, if_false, List.all_cons, List.all_nil, List.map_cons, List.map_nil, Bool.and_true, Bool.true_and, Bool.and_false, Bool.false_and, reduceCtorEq, ne_eq, not_true, not_false_eq_true, forall_const, PyData.bool.injEq, PyData.int.injEq, PyData.str.injEq, PyData.list.injEq, PyData.tuple.injEq, Bool.false_eq_true, Bool.not_true, Bool.not_false, decide_true, decide_false, eq_self, exists_eq, Bool.not_eq_true,  forall_eq', forall_eq, false_implies, true_implies, Option.map_some, Option.map_none, imp_self, implies_true, Bool.true_eq_false, Bool.true_or, Bool.or_true, Bool.false_or, Bool.or_false, ↓reduceIte, Int.reduceLT, Int.reduceLE, Int.reducePow, Int.reduceNeg, Int.reduceAdd, Int.reduceMul, Int.reduceSub, Int.reduceEq, Nat.reduceAdd, Nat.reducePow, Nat.reduceLT, Nat.reduceMul, Nat.reduceSub, Nat.reduceLeDiff, Nat.reduceEqDiff, and_self, or_self, b3, b4', b5, e5, ex, E.i13.io, E.i13.fr, E.i14.io, E.i14.fr]
  have hall : ∀ d ∈ [PyData.str (S (a ++ zz)), .str (S (a.take 2))] ++ xs, Shrt d := by
    intro d hd
    rcases List.mem_append.mp hd with hd | hd
    · simp only [List.mem_cons, List.mem_nil_iff, or_false] at hd
      rcases hd with rfl | rfl
      · exact shrt_S (by rw [List.length_append]; omega)
      · exact shrt_S (by rw [List.length_take]; omega)
    · exact hxs d hd
  generalize [PyData.str (S (a ++ zz)), .str (S (a.take 2))] ++ xs = ds at g1 hall
  refine stepN (Q0 := fun t => ∃ k10 k11, Slt k10 ∧ Slt k11 ∧ t = [.im sc, .ow p5, .im (T), .im (.str (S w0)), .im (.str (S a)), .im (.str (S b)), .im (.int l), .im (.tuple [.str (S x), .str (S y)]), .im (.str (S u)), .im (.str (S v)), k10, k11, .no, .no, .no]) ?_ ?_
  · refine l_forN g1 rfl (fun i t => ∃ k10 k11, Slt k10 ∧ Slt k11 ∧ t = [.im sc, .ow p5, .im (T), .im (.str (S w0)), .im (.str (S a)), .im (.str (S b)), .im (.int l), .im (.tuple [.str (S x), .str (S y)]), .im (.str (S u)), .im (.str (S v)), k10, k11, .no, .no, .no]) ⟨k10, k11, h10, h11, rfl⟩ ?_ ?_
    · rintro i t hi ⟨k10, k11, h10, h11, rfl⟩
      have hd := hall ds[i] (List.getElem_mem hi)
      generalize ds[i] = d at hd
      refine okT_n rfl h10 ?_
      show okSL F C _ [.im sc, .ow p5, .im (T), .im (.str (S w0)), .im (.str (S a)), .im (.str (S b)), .im (.int l), .im (.tuple [.str (S x), .str (S y)]), .im (.str (S u)), .im (.str (S v)), .im (d), k11, .no, .no, .no] _
      have r1 := E.i19.sem d hd
      have r2 := E.i0.sem d hd
      have r3 := E.s1 d hd
      have r4 := E.s9 (.list [.bool (wordB d), .bool (shortB d)]) rfl (by simp [dpD, dpL])
      refine stepSet (r := ⟨.im, .bool (wordB d)⟩) (s1 := [.im sc, .ow p5, .im (T), .im (.str (S w0)), .im (.str (S a)), .im (.str (S b)), .im (.int l), .im (.tuple [.str (S x), .str (S y)]), .im (.str (S u)), .im (.str (S v)), .im (d), k11, .no, .no, .no]) (by simp only [sizeLine, List.length_cons, List.length_nil, Nat.zero_add, okSL, okS, okE, okEL, okC, okO, runL, run, eval, evalL, evalC, putR, binD, addD, cmpD, b1D, b2D, isiD, subD, lenD, itemsD, ltD, lockR, unlockR, putS, pinned, isIm, optI, setP1, setP2, setP3, at0, at1, at2, at3, at4, decide_eq_true_eq, decide_eq_false_iff_not, okT, bindT, eqInt, eqBool, eqStr, eqNone, List.getElem?_cons_zero, List.getElem?_cons_succ, List.set_cons_zero, List.set_cons_succ, Option.some.injEq, exists_eq_left', exists_eq_left, exists_eq_right, exists_eq_right', and_true, true_and, and_false, false_and, or_true, true_or, or_false, false_or, if_true, if_false, List.all_cons, List.all_nil, List.map_cons, List.map_nil, Bool.and_true, Bool.true_and, Bool.and_false, Bool.false_and, reduceCtorEq, ne_eq, not_true, not_false_eq_true, forall_const, PyData.bool.injEq, PyData.int.injEq, PyData.str.injEq, PyData.list.injEq, PyData.tuple.injEq, Bool.false_eq_true, Bool.not_true, Bool.not_false, decide_true, decide_false, eq_self, exists_eq, Bool.not_eq_true,  forall_eq', forall_eq, false_implies, true_implies, Option.map_some, Option.map_none, imp_self, implies_true, Bool.true_eq_false, Bool.true_or, Bool.or_true, Bool.false_or, Bool.or_false, ↓reduceIte, Int.reduceLT, Int.reduceLE, Int.reducePow, Int.reduceNeg, Int.reduceAdd, Int.reduceMul, Int.reduceSub, Int.reduceEq, Nat.reduceAdd, Nat.reducePow, Nat.reduceLT, Nat.reduceMul, Nat.reduceSub, Nat.reduceLeDiff, Nat.reduceEqDiff, and_self, or_self, r1, E.i19.io, E.i19.fr]) rfl rfl h11 ?_
      show okSL F C _ [.im sc, .ow p5, .im (T), .im (.str (S w0)), .im (.str (S a)), .im (.str (S b)), .im (.int l), .im (.tuple [.str (S x), .str (S y)]), .im (.str (S u)), .im (.str (S v)), .im (d), .im (.bool (wordB d)), .no, .no, .no] _
      refine step (s1 := [.im sc, .ow p5, .im (T), .im (.str (S w0)), .im (.str (S a)), .im (.str (S b)), .im (.int l), .im (.tuple [.str (S x), .str (S y)]), .im (.str (S u)), .im (.str (S v)), .im (d), .im (.bool (wordB d)), .no, .no, .no]) ?_ (lastQ ⟨rfl, _, _, .inr ⟨_, rfl⟩, .inr ⟨_, rfl⟩, rfl⟩)
      cases hw : wordB d with
      | false =>
        rw [hw] at r2 r4
        rw [short_no hw] at r3 r4
        simp only [sizeLine, List.length_cons, List.length_nil, Nat.zero_add, okSL, okS, okE, okEL, okC, okO, runL, run, eval, evalL, evalC, putR, binD, addD, cmpD, b1D, b2D, isiD, subD, lenD, itemsD, ltD, lockR, unlockR, putS, pinned, isIm, optI, setP1, setP2, setP3, at0, at1, at2, at3, at4, decide_eq_true_eq, decide_eq_false_iff_not, okT, bindT, eqInt, eqBool, eqStr, eqNone, List.getElem?_cons_zero, List.getElem?_cons_succ, List.set_cons_zero, List.set_cons_succ, Option.some.injEq, exists_eq_left', exists_eq_left, exists_eq_right, exists_eq_right', and_true, true_and, and_false, false_and, or_true, true_or, or_false, false_or, if_true, if_false, List.all_cons, List.all_nil, List.map_cons, List.map_nil, Bool.and_true, Bool.true_and, Bool.and_false, Bool.false_and, reduceCtorEq, ne_eq, not_true, not_false_eq_true, forall_const, PyData.bool.injEq, PyData.int.injEq, PyData.str.injEq, PyData.list.injEq, PyData.tuple.injEq, Bool.false_eq_true, Bool.not_true, Bool.not_false, decide_true, decide_false, eq_self, exists_eq, Bool.not_eq_true,  forall_eq', forall_eq, false_implies, true_implies, Option.map_some, Option.map_none, imp_self, implies_true, Bool.true_eq_false, Bool.true_or, Bool.or_true, Bool.false_or, Bool.or_false, ↓reduceIte, Int.reduceLT, Int.reduceLE, Int.reducePow, Int.reduceNeg, Int.reduceAdd, Int.reduceMul, Int.reduceSub, Int.reduceEq, Nat.reduceAdd, Nat.reducePow, Nat.reduceLT, Nat.reduceMul, Nat.reduceSub, Nat.reduceLeDiff, Nat.reduceEqDiff, and_self, or_self, r2, r3, r4, E.i0.io, E.i0.fr, E.i1.io, E.i1.fr, E.i9.io, E.i9.fr]
      | true =>
        rw [hw] at r2 r4
        obtain ⟨c, rfl⟩ := wordB_str hw
        have hc := hd c rfl
        have hc' : c.length ≤ 16777216 := by omega
        have hsb : shortB (.str c) = decide ((c.length : Int) ≤ 9) := by
          simp only [shortB, hw, Bool.true_and]
          rw [decide_eq_decide]
          omega
        rw [hsb] at r3 r4
        simp only [sizeLine, List.length_cons, List.length_nil, Nat.zero_add, okSL, okS, okE, okEL, okC, okO, runL, run, eval, evalL, evalC, putR, binD, addD, cmpD, b1D, b2D, isiD, subD, lenD, itemsD, ltD, lockR, unlockR, putS, pinned, isIm, optI, setP1, setP2, setP3, at0, at1, at2, at3, at4, decide_eq_true_eq, decide_eq_false_iff_not, okT, bindT, eqInt, eqBool, eqStr, eqNone, List.getElem?_cons_zero, List.getElem?_cons_succ, List.set_cons_zero, List.set_cons_succ, Option.some.injEq, exists_eq_left', exists_eq_left, exists_eq_right, exists_eq_right', and_true, true_and, and_false, false_and, or_true, true_or, or_false, false_or, if_true, if_false, List.all_cons, List.all_nil, List.map_cons, List.map_nil, Bool.and_true, Bool.true_and, Bool.and_false, Bool.false_and, reduceCtorEq, ne_eq, not_true, not_false_eq_true, forall_const, PyData.bool.injEq, PyData.int.injEq, PyData.str.injEq, PyData.list.injEq, PyData.tuple.injEq, Bool.false_eq_true, Bool.not_true, Bool.not_false, decide_true, decide_false, eq_self, exists_eq, Bool.not_eq_true,  forall_eq', forall_eq, false_implies, true_implies, Option.map_some, Option.map_none, imp_self, implies_true, Bool.true_eq_false, Bool.true_or, Bool.or_true, Bool.false_or, Bool.or_false, ↓reduceIte, Int.reduceLT, Int.reduceLE, Int.reducePow, Int.reduceNeg, Int.reduceAdd, Int.reduceMul, Int.reduceSub, Int.reduceEq, Nat.reduceAdd, Nat.reducePow, Nat.reduceLT, Nat.reduceMul, Nat.reduceSub, Nat.reduceLeDiff, Nat.reduceEqDiff, and_self, or_self, r2, r3, r4, hc', E.i0.io, E.i0.fr, E.i1.io, E.i1.fr, E.i9.io, E.i9.fr]
    · rintro t ⟨k10, k11, h10, h11, rfl⟩
      exact ⟨rfl, k10, k11, h10, h11, rfl⟩
  · rintro t ⟨k10, k11, h10, h11, rfl⟩
    exact lastQ ⟨rfl, _, _, _, _, _, _, _, _, _, _, rfl, q5, .inr ⟨_, rfl⟩, .inr ⟨_, rfl⟩, .inr ⟨_, rfl⟩, .inr ⟨_, rfl⟩, .inr ⟨_, rfl⟩, .inr ⟨_, rfl⟩, .inr ⟨_, rfl⟩, h10, h11⟩
end
end Ev

set_option autoImplicit false
/-! K01f: the law says True. -/
namespace Ev
open PySem
open L2 (atI ixN)
section
variable {F : Nat → Fn} {C : Nat → PyData}
def lenIs (z : Int) : PyData → Bool
  | .str x => decide ((x.length : Int) = z)
  | _ => false
theorem filt_txts (n : Nat) (z : Int) (hz : z = (n : Int)) : ∀ l : List (List Nat), (txts l).filter (lenIs z) = txts (l.filter fun w => decide (w.length = n))
  | [] => rfl
  | w :: l => by
    have e : lenIs z (.str (S w)) = decide (w.length = n) := by
      simp only [lenIs, S_len]
      rw [decide_eq_decide]
      omega
    show ((PyData.str (S w)) :: txts l).filter (lenIs z) = _
    rw [List.filter_cons, List.filter_cons, e, filt_txts n z hz l]
    cases decide (w.length = n) <;> rfl
theorem Wup_le (m : Nat) : ∀ w ∈ Wup m, w.length ≤ m := by
  induction m with
  | zero => intro w hw; rw [Wn_len 0 w hw]; exact Nat.le_refl _
  | succ m ih =>
    intro w hw
    rcases List.mem_append.mp hw with h | h
    · exact Nat.le_succ_of_le (ih w h)
    · exact Nat.le_of_eq (Wn_len (m + 1) w h)
theorem every_comp {s : Stt} {n : Nat} {z : Int} (hn : n ≤ 9) (hz : z = (n : Int)) {sc p : PyData} {k2 k3 k4 k5 k6 k7 k8 k9 k10 k11 : Sl} :
    eval F C (.comp (.nm 14) (.n 14) .ex [(.nm 13)] [(.cmp .eq (.b1 .len (.nm 14)) (.nm 12))] [("word", 14)]) [.im sc, .ow p, k2, k3, k4, k5, k6, k7, k8, k9, k10, k11, .im (.int z), .im (.list (txts (Wup n))), .no] = some (⟨.fr, .list (txts (Wn n))⟩, [.im sc, .ow p, k2, k3, k4, k5, k6, k7, k8, k9, k10, k11, .im (.int z), .im (.list (txts (Wup n))), .no]) := by
  have e1 : evalL F C [.nm 13] [.im sc, .ow p, k2, k3, k4, k5, k6, k7, k8, k9, k10, k11, .im (.int z), .im (.list (txts (Wup n))), .no] = some ([⟨.im, .list (txts (Wup n))⟩], [.im sc, .ow p, k2, k3, k4, k5, k6, k7, k8, k9, k10, k11, .im (.int z), .im (.list (txts (Wup n))), .no]) := by simp only [sizeLine, List.length_cons, List.length_nil, Nat.zero_add, okSL, okS, okE, okEL, okC, okO, runL, run, eval, evalL, evalC, putR, binD, addD, cmpD, b1D, b2D, isiD, subD, lenD, itemsD, ltD, lockR, unlockR, putS, pinned, isIm, optI, setP1, setP2, setP3, at0, at1, at2, at3, at4, decide_eq_true_eq, decide_eq_false_iff_not, okT, bindT, eqInt, eqBool, eqStr, eqNone, List.getElem?_cons_zero, List.getElem?_cons_succ, List.set_cons_zero, List.set_cons_succ, Option.some.injEq, exists_eq_left', exists_eq_left, exists_eq_right, exists_eq_right', and_true, true_and, and_false, false_and, or_true, true_or, or_false, false_or, if_true, if_false, List.all_cons, List.all_nil, List.map_cons, List.map_nil, Bool.and_true, Bool.true_and, Bool.and_false, Bool.false_and, reduceCtorEq, ne_eq, not_true, not_false_eq_true, forall_const, PyData.bool.injEq, PyData.int.injEq, PyData.str.injEq, PyData.list.injEq, PyData.tuple.injEq, Bool.false_eq_true, Bool.not_true, Bool.not_false, decide_true, decide_false, eq_self, exists_eq, Bool.not_eq_true,  forall_eq', forall_eq, false_implies, true_implies, Option.map_some, Option.map_none, imp_self, implies_true, Bool.true_eq_false, Bool.true_or, Bool.or_true, Bool.false_or, Bool.or_false, ↓reduceIte, Int.reduceLT, Int.reduceLE, Int.reducePow, Int.reduceNeg, Int.reduceAdd, Int.reduceMul, Int.reduceSub, Int.reduceEq, Nat.reduceAdd, Nat.reducePow, Nat.reduceLT, Nat.reduceMul, Nat.reduceSub, Nat.reduceLeDiff, Nat.reduceEqDiff, and_self, or_self]
  have hl : (txts (Wup n)).length ≤ 16777216 := by
    rw [txts, List.length_map]
    exact Nat.le_trans (Wup_count n) (Nat.le_trans (pow3_le (by omega : n + 1 ≤ 10)) (by decide))
  have key : okE F C (.comp (.nm 14) (.n 14) .ex [(.nm 13)] [(.cmp .eq (.b1 .len (.nm 14)) (.nm 12))] [("word", 14)]) [.im sc, .ow p, k2, k3, k4, k5, k6, k7, k8, k9, k10, k11, .im (.int z), .im (.list (txts (Wup n))), .no] fun r t => r = ⟨.fr, .list (txts (Wn n))⟩ ∧ t = [.im sc, .ow p, k2, k3, k4, k5, k6, k7, k8, k9, k10, k11, .im (.int z), .im (.list (txts (Wup n))), .no] := by
    refine p_comp (s0 := [.im sc, .ow p, k2, k3, k4, k5, k6, k7, k8, k9, k10, k11, .im (.int z), .im (.list (txts (Wup n))), .no]) (lenIs z) (fun d => d) e1 rfl rfl hl rfl rfl rfl ?_ ?_
    · intro d hd
      obtain ⟨w, hw, rfl⟩ := List.mem_map.mp hd
      have h1 := Wup_le n w hw
      have h2 := lenS (a := w) (by omega)
      refine okT_n rfl (.inl rfl) ?_
      show okC F C _ [.im sc, .ow p, k2, k3, k4, k5, k6, k7, k8, k9, k10, k11, .im (.int z), .im (.list (txts (Wup n))), .im (.str (S w))] _
      have el : lenIs z (.str (S w)) = decide ((w.length : Int) = z) := by simp only [lenIs, S_len]
      rw [el]
      by_cases hq : (w.length : Int) = z
      · simp only [sizeLine, List.length_cons, List.length_nil, Nat.zero_add, okSL, okS, okE, okEL, okC, okO, runL, run, eval, evalL, evalC, putR, binD, cmpD, b1D, b2D, isiD, subD, itemsD, lockR, unlockR, putS, pinned, isIm, optI, setP1, setP2, setP3, at0, at1, at2, at3, at4, decide_eq_true_eq, decide_eq_false_iff_not, okT, bindT, eqInt, eqBool, eqStr, eqNone, List.getElem?_cons_zero, List.getElem?_cons_succ, List.set_cons_zero, List.set_cons_succ, Option.some.injEq, exists_eq_left', exists_eq_left, exists_eq_right, exists_eq_right', and_true, true_and, and_false, false_and, or_true, true_or, or_false, false_or, if_true, if_false, List.all_cons, List.all_nil, List.map_cons, List.map_nil, Bool.and_true, Bool.true_and, Bool.and_false, Bool.false_and, reduceCtorEq, ne_eq, not_true, not_false_eq_true, forall_const, PyData.bool.injEq, PyData.int.injEq, PyData.str.injEq, PyData.list.injEq, PyData.tuple.injEq, Bool.false_eq_true, Bool.not_true, Bool.not_false, decide_true, decide_false, eq_self, exists_eq, Bool.not_eq_true,  forall_eq', forall_eq, false_implies, true_implies, Option.map_some, Option.map_none, imp_self, implies_true, Bool.true_eq_false, Bool.true_or, Bool.or_true, Bool.false_or, Bool.or_false, ↓reduceIte, Int.reduceLT, Int.reduceLE, Int.reducePow, Int.reduceNeg, Int.reduceAdd, Int.reduceMul, Int.reduceSub, Int.reduceEq, Nat.reduceAdd, Nat.reducePow, Nat.reduceLT, Nat.reduceMul, Nat.reduceSub, Nat.reduceLeDiff, Nat.reduceEqDiff, and_self, or_self, h2, hq]
        exact ⟨rfl, rfl⟩
      · simp only [sizeLine, List.length_cons, List.length_nil, Nat.zero_add, okSL, okS, okE, okEL, okC, okO, runL, run, eval, evalL, evalC, putR, binD, cmpD, b1D, b2D, isiD, subD, itemsD, lockR, unlockR, putS, pinned, isIm, optI, setP1, setP2, setP3, at0, at1, at2, at3, at4, decide_eq_true_eq, decide_eq_false_iff_not, okT, bindT, eqInt, eqBool, eqStr, eqNone, List.getElem?_cons_zero, List.getElem?_cons_succ, List.set_cons_zero, List.set_cons_succ, Option.some.injEq, exists_eq_left', exists_eq_left, exists_eq_right, exists_eq_right', and_true, true_and, and_false, false_and, or_true, true_or, or_false, false_or, if_true, if_false, List.all_cons, List.all_nil, List.map_cons, List.map_nil, Bool.and_true, Bool.true_and, Bool.and_false, Bool.false_and, reduceCtorEq, ne_eq, not_true, not_false_eq_true, forall_const, PyData.bool.injEq, PyData.int.injEq, PyData.str.injEq, PyData.list.injEq, PyData.tuple.injEq, Bool.false_eq_true, Bool.not_true, Bool.not_false, decide_true, decide_false, eq_self, exists_eq, Bool.not_eq_true,  forall_eq', forall_eq, false_implies, true_implies, Option.map_some, Option.map_none, imp_self, implies_true, Bool.true_eq_false, Bool.true_or, Bool.or_true, Bool.false_or, Bool.or_false, ↓reduceIte, Int.reduceLT, Int.reduceLE, Int.reducePow, Int.reduceNeg, Int.reduceAdd, Int.reduceMul, Int.reduceSub, Int.reduceEq, Nat.reduceAdd, Nat.reducePow, Nat.reduceLT, Nat.reduceMul, Nat.reduceSub, Nat.reduceLeDiff, Nat.reduceEqDiff, and_self, or_self, h2, hq]
        exact ⟨rfl, rfl⟩
    · refine ⟨?_, rfl⟩
      rw [List.map_id', filt_txts n z hz, filt_Wup]
  unfold okE at key
  rw [okO_ex] at key
  obtain ⟨r, t, e, rfl, rfl⟩ := key
  exact e
theorem law_core (E : Env1 F) (ns : List Int) : semOf F C 15 false false (ir_law 0 1 2 3 4 5 6 7 8 9 10 12 13 14 15 16 17 18 19 20) [.list (ns.map .int)] = some (.bool true, .none) := by
  obtain ⟨p, ep, hp⟩ := E.s10 ns
  refine sem_rt ?_
  unfold ir_law
  show okSL F C _ [.im (.list (ns.map .int)), .no, .no, .no, .no, .no, .no, .no, .no, .no, .no, .no, .no, .no, .no] _
  generalize PyData.list (ns.map .int) = sc at ep ⊢
  refine step (s1 := [.im sc, .ow p, .no, .no, .no, .no, .no, .no, .no, .no, .no, .no, .no, .no, .no]) (by simp only [sizeLine, List.length_cons, List.length_nil, Nat.zero_add, okSL, okS, okE, okEL, okC, okO, runL, run, eval, evalL, evalC, putR, binD, addD, cmpD, b1D, b2D, isiD, subD, lenD, itemsD, ltD, lockR, unlockR, putS, pinned, isIm, optI, setP1, setP2, setP3, at0, at1, at2, at3, at4, decide_eq_true_eq, decide_eq_false_iff_not, okT, bindT, eqInt, eqBool, eqStr, eqNone, List.getElem?_cons_zero, List.getElem?_cons_succ, List.set_cons_zero, List.set_cons_succ, Option.some.injEq, exists_eq_left', exists_eq_left, exists_eq_right, exists_eq_right', and_true, true_and, and_false, false_and, or_true, true_or, or_false, false_or, if_true, if_false, List.all_cons, List.all_nil, List.map_cons, List.map_nil, Bool.and_true, Bool.true_and, Bool.and_false, Bool.false_and, reduceCtorEq, ne_eq, not_true, not_false_eq_true, forall_const, PyData.bool.injEq, PyData.int.injEq, PyData.str.injEq, PyData.list.injEq, PyData.tuple.injEq, Bool.false_eq_true, Bool.not_true, Bool.not_false, decide_true, decide_false, eq_self, exists_eq, Bool.not_eq_true,  forall_eq', forall_eq, false_implies, true_implies, Option.map_some, Option.map_none, imp_self, implies_true, Bool.true_eq_false, Bool.true_or, Bool.or_true, Bool.false_or, Bool.or_false, ↓reduceIte, Int.reduceLT, Int.reduceLE, Int.reducePow, Int.reduceNeg, Int.reduceAdd, Int.reduceMul, Int.reduceSub, Int.reduceEq, Nat.reduceAdd, Nat.reducePow, Nat.reduceLT, Nat.reduceMul, Nat.reduceSub, Nat.reduceLeDiff, Nat.reduceEqDiff, and_self, or_self, ep, E.f10, E.o10]) ?_
  refine stepN (Q0 := fun t => ∃ p k2 k3 k4 k5 k6 k7 k8 k9 k10 k11, t = [.im sc, .ow p, k2, k3, k4, k5, k6, k7, k8, k9, k10, k11, .no, .no, .no] ∧ PoolOk p) ?_ ?_
  · have e1 : evalL F C [.cs (PyData.int 5)] [.im sc, .ow p, .no, .no, .no, .no, .no, .no, .no, .no, .no, .no, .no, .no, .no] = some ([⟨.im, .int 5⟩], [.im sc, .ow p, .no, .no, .no, .no, .no, .no, .no, .no, .no, .no, .no, .no, .no]) := by simp only [sizeLine, List.length_cons, List.length_nil, Nat.zero_add, okSL, okS, okE, okEL, okC, okO, runL, run, eval, evalL, evalC, putR, binD, addD, cmpD, b1D, b2D, isiD, subD, lenD, itemsD, ltD, lockR, unlockR, putS, pinned, isIm, optI, setP1, setP2, setP3, at0, at1, at2, at3, at4, decide_eq_true_eq, decide_eq_false_iff_not, okT, bindT, eqInt, eqBool, eqStr, eqNone, List.getElem?_cons_zero, List.getElem?_cons_succ, List.set_cons_zero, List.set_cons_succ, Option.some.injEq, exists_eq_left', exists_eq_left, exists_eq_right, exists_eq_right', and_true, true_and, and_false, false_and, or_true, true_or, or_false, false_or, if_true, if_false, List.all_cons, List.all_nil, List.map_cons, List.map_nil, Bool.and_true, Bool.true_and, Bool.and_false, Bool.false_and, reduceCtorEq, ne_eq, not_true, not_false_eq_true, forall_const, PyData.bool.injEq, PyData.int.injEq, PyData.str.injEq, PyData.list.injEq, PyData.tuple.injEq, Bool.false_eq_true, Bool.not_true, Bool.not_false, decide_true, decide_false, eq_self, exists_eq, Bool.not_eq_true,  forall_eq', forall_eq, false_implies, true_implies, Option.map_some, Option.map_none, imp_self, implies_true, Bool.true_eq_false, Bool.true_or, Bool.or_true, Bool.false_or, Bool.or_false, ↓reduceIte, Int.reduceLT, Int.reduceLE, Int.reducePow, Int.reduceNeg, Int.reduceAdd, Int.reduceMul, Int.reduceSub, Int.reduceEq, Nat.reduceAdd, Nat.reducePow, Nat.reduceLT, Nat.reduceMul, Nat.reduceSub, Nat.reduceLeDiff, Nat.reduceEqDiff, and_self, or_self]
    have e2 : itD .r1 [⟨.im, .int 5⟩] = some (rng 0 5) := lenItd (by decide) (by decide)
    generalize rng 0 5 = rr at e2
    refine l_forN e1 e2 (fun i t => ∃ p k2 k3 k4 k5 k6 k7 k8 k9 k10 k11, t = [.im sc, .ow p, k2, k3, k4, k5, k6, k7, k8, k9, k10, k11, .no, .no, .no] ∧ PoolOk p ∧ Slt k2 ∧ Slt k3 ∧ Slt k4 ∧ Slt k5 ∧ Slt k6 ∧ Slt k7 ∧ Slt k8 ∧ Slt k9 ∧ Slt k10 ∧ Slt k11) ⟨_, _, _, _, _, _, _, _, _, _, _, rfl, hp, .inl rfl, .inl rfl, .inl rfl, .inl rfl, .inl rfl, .inl rfl, .inl rfl, .inl rfl, .inl rfl, .inl rfl⟩ ?_ ?_
    · rintro i t hi ⟨p, k2, k3, k4, k5, k6, k7, k8, k9, k10, k11, rfl, hp, h2, h3, h4, h5, h6, h7, h8, h9, h10, h11⟩
      generalize rr[i] = T
      refine okT_n rfl h2 ?_
      have q := law_turn (C := C) E (sc := sc) (T := T) hp h3 h4 h5 h6 h7 h8 h9 h10 h11
      refine okSL.imp q ?_
      rintro f t ⟨rfl, p', a3, a4, a5, a6, a7, a8, a9, a10, a11, rfl, b⟩
      exact ⟨rfl, p', _, a3, a4, a5, a6, a7, a8, a9, a10, a11, rfl, b.1, .inr ⟨_, rfl⟩, b.2⟩
    · rintro t ⟨p, k2, k3, k4, k5, k6, k7, k8, k9, k10, k11, rfl, hp, _⟩
      exact ⟨rfl, p, k2, k3, k4, k5, k6, k7, k8, k9, k10, k11, rfl, hp⟩
  · rintro t ⟨p, k2, k3, k4, k5, k6, k7, k8, k9, k10, k11, rfl, hp⟩
    obtain ⟨z, p1, ez, hz0, hz1, hp1⟩ := E.i12.dr hp (m := 4) (by omega) (by omega)
    obtain ⟨n, hz⟩ := Int.eq_ofNat_of_zero_le hz0
    have hn : n ≤ 9 := by omega
    refine step (s1 := [.im sc, .ow p1, k2, k3, k4, k5, k6, k7, k8, k9, k10, k11, .im (.int z), .no, .no]) (by simp only [sizeLine, List.length_cons, List.length_nil, Nat.zero_add, okSL, okS, okE, okEL, okC, okO, runL, run, eval, evalL, evalC, putR, binD, addD, cmpD, b1D, b2D, isiD, subD, lenD, itemsD, ltD, lockR, unlockR, putS, pinned, isIm, optI, setP1, setP2, setP3, at0, at1, at2, at3, at4, decide_eq_true_eq, decide_eq_false_iff_not, okT, bindT, eqInt, eqBool, eqStr, eqNone, List.getElem?_cons_zero, List.getElem?_cons_succ, List.set_cons_zero, List.set_cons_succ, Option.some.injEq, exists_eq_left', exists_eq_left, exists_eq_right, exists_eq_right', and_true, true_and, and_false, false_and, or_true, true_or, or_false, false_or, if_true, if_false, List.all_cons, List.all_nil, List.map_cons, List.map_nil, Bool.and_true, Bool.true_and, Bool.and_false, Bool.false_and, reduceCtorEq, ne_eq, not_true, not_false_eq_true, forall_const, PyData.bool.injEq, PyData.int.injEq, PyData.str.injEq, PyData.list.injEq, PyData.tuple.injEq, Bool.false_eq_true, Bool.not_true, Bool.not_false, decide_true, decide_false, eq_self, exists_eq, Bool.not_eq_true,  forall_eq', forall_eq, false_implies, true_implies, Option.map_some, Option.map_none, imp_self, implies_true, Bool.true_eq_false, Bool.true_or, Bool.or_true, Bool.false_or, Bool.or_false, ↓reduceIte, Int.reduceLT, Int.reduceLE, Int.reducePow, Int.reduceNeg, Int.reduceAdd, Int.reduceMul, Int.reduceSub, Int.reduceEq, Nat.reduceAdd, Nat.reducePow, Nat.reduceLT, Nat.reduceMul, Nat.reduceSub, Nat.reduceLeDiff, Nat.reduceEqDiff, and_self, or_self, ez, E.i12.io, E.i12.fr]) ?_
    have t16 := E.s16 n z hn hz
    refine step (s1 := [.im sc, .ow p1, k2, k3, k4, k5, k6, k7, k8, k9, k10, k11, .im (.int z), .im (.list (txts (Wup n))), .no]) (by simp only [sizeLine, List.length_cons, List.length_nil, Nat.zero_add, okSL, okS, okE, okEL, okC, okO, runL, run, eval, evalL, evalC, putR, binD, addD, cmpD, b1D, b2D, isiD, subD, lenD, itemsD, ltD, lockR, unlockR, putS, pinned, isIm, optI, setP1, setP2, setP3, at0, at1, at2, at3, at4, decide_eq_true_eq, decide_eq_false_iff_not, okT, bindT, eqInt, eqBool, eqStr, eqNone, List.getElem?_cons_zero, List.getElem?_cons_succ, List.set_cons_zero, List.set_cons_succ, Option.some.injEq, exists_eq_left', exists_eq_left, exists_eq_right, exists_eq_right', and_true, true_and, and_false, false_and, or_true, true_or, or_false, false_or, if_true, if_false, List.all_cons, List.all_nil, List.map_cons, List.map_nil, Bool.and_true, Bool.true_and, Bool.and_false, Bool.false_and, reduceCtorEq, ne_eq, not_true, not_false_eq_true, forall_const, PyData.bool.injEq, PyData.int.injEq, PyData.str.injEq, PyData.list.injEq, PyData.tuple.injEq, Bool.false_eq_true, Bool.not_true, Bool.not_false, decide_true, decide_false, eq_self, exists_eq, Bool.not_eq_true,  forall_eq', forall_eq, false_implies, true_implies, Option.map_some, Option.map_none, imp_self, implies_true, Bool.true_eq_false, Bool.true_or, Bool.or_true, Bool.false_or, Bool.or_false, ↓reduceIte, Int.reduceLT, Int.reduceLE, Int.reducePow, Int.reduceNeg, Int.reduceAdd, Int.reduceMul, Int.reduceSub, Int.reduceEq, Nat.reduceAdd, Nat.reducePow, Nat.reduceLT, Nat.reduceMul, Nat.reduceSub, Nat.reduceLeDiff, Nat.reduceEqDiff, and_self, or_self, t16, E.i16.io, E.i16.fr]) ?_
    have t7 := E.s7 n z hn hz
    have t6 := E.i6.sem n z (by omega) hz
    have u1 := E.s9 (.list (txts (Wup n))) (by
      simp only [plD, pl_txts, Bool.true_and]
      rw [txts, List.length_map]
      exact decide_eq_true (Nat.le_trans (Wup_count n) (Nat.le_trans (pow3_le (by omega : n + 1 ≤ 10)) (by decide)))) (by simp only [dpD, dp_txts]; omega)
    have u2 := E.s9 (.list (txts (Wn n))) (by
      simp only [plD, pl_txts, Bool.true_and]
      rw [txts, List.length_map, Wn_count]
      exact decide_eq_true (Nat.le_trans (pow3_le hn) (by decide))) (by simp only [dpD, dp_txts]; omega)
    have ec := every_comp (F := F) (C := C) (s := []) hn hz (sc := sc) (p := p1) (k2 := k2) (k3 := k3) (k4 := k4) (k5 := k5) (k6 := k6) (k7 := k7) (k8 := k8) (k9 := k9) (k10 := k10) (k11 := k11)
    generalize Ex.comp (.nm 14) (.n 14) .ex [(.nm 13)] [(.cmp .eq (.b1 .len (.nm 14)) (.nm 12))] [("word", 14)] = CE at ec ⊢
    refine step (s1 := [.im sc, .ow p1, k2, k3, k4, k5, k6, k7, k8, k9, k10, k11, .im (.int z), .im (.list (txts (Wup n))), .no]) (by simp only [sizeLine, List.length_cons, List.length_nil, Nat.zero_add, okSL, okS, okE, okEL, okC, okO, runL, run, eval, evalL, evalC, putR, binD, addD, cmpD, b1D, b2D, isiD, subD, lenD, itemsD, ltD, lockR, unlockR, putS, pinned, isIm, optI, setP1, setP2, setP3, at0, at1, at2, at3, at4, decide_eq_true_eq, decide_eq_false_iff_not, okT, bindT, eqInt, eqBool, eqStr, eqNone, List.getElem?_cons_zero, List.getElem?_cons_succ, List.set_cons_zero, List.set_cons_succ, Option.some.injEq, exists_eq_left', exists_eq_left, exists_eq_right, exists_eq_right', and_true, true_and, and_false, false_and, or_true, true_or, or_false, false_or, if_true, if_false, List.all_cons, List.all_nil, List.map_cons, List.map_nil, Bool.and_true, Bool.true_and, Bool.and_false, Bool.false_and, reduceCtorEq, ne_eq, not_true, not_false_eq_true, forall_const, PyData.bool.injEq, PyData.int.injEq, PyData.str.injEq, PyData.list.injEq, PyData.tuple.injEq, Bool.false_eq_true, Bool.not_true, Bool.not_false, decide_true, decide_false, eq_self, exists_eq, Bool.not_eq_true,  forall_eq', forall_eq, false_implies, true_implies, Option.map_some, Option.map_none, imp_self, implies_true, Bool.true_eq_false, Bool.true_or, Bool.or_true, Bool.false_or, Bool.or_false, ↓reduceIte, Int.reduceLT, Int.reduceLE, Int.reducePow, Int.reduceNeg, Int.reduceAdd, Int.reduceMul, Int.reduceSub, Int.reduceEq, Nat.reduceAdd, Nat.reducePow, Nat.reduceLT, Nat.reduceMul, Nat.reduceSub, Nat.reduceLeDiff, Nat.reduceEqDiff, and_self, or_self, t7, t6, u1, u2, ec, E.i7.io, E.i7.fr, E.i6.io, E.i6.fr, E.i9.io, E.i9.fr]) ?_
    refine stepR (f := .rt _) (by simp only [sizeLine, List.length_cons, List.length_nil, Nat.zero_add, okSL, okS, okE, okEL, okC, okO, runL, run, eval, evalL, evalC, putR, binD, addD, cmpD, b1D, b2D, isiD, subD, lenD, itemsD, ltD, lockR, unlockR, putS, pinned, isIm, optI, setP1, setP2, setP3, at0, at1, at2, at3, at4, decide_eq_true_eq, decide_eq_false_iff_not, okT, bindT, eqInt, eqBool, eqStr, eqNone, List.getElem?_cons_zero, List.getElem?_cons_succ, List.set_cons_zero, List.set_cons_succ, Option.some.injEq, exists_eq_left', exists_eq_left, exists_eq_right, exists_eq_right', and_true, true_and, and_false, false_and, or_true, true_or, or_false, false_or, if_true, if_false, List.all_cons, List.all_nil, List.map_cons, List.map_nil, Bool.and_true, Bool.true_and, Bool.and_false, Bool.false_and, reduceCtorEq, ne_eq, not_true, not_false_eq_true, forall_const, PyData.bool.injEq, PyData.int.injEq, PyData.str.injEq, PyData.list.injEq, PyData.tuple.injEq, Bool.false_eq_true, Bool.not_true, Bool.not_false, decide_true, decide_false, eq_self, exists_eq, Bool.not_eq_true,  forall_eq', forall_eq, false_implies, true_implies, Option.map_some, Option.map_none, imp_self, implies_true, Bool.true_eq_false, Bool.true_or, Bool.or_true, Bool.false_or, Bool.or_false, ↓reduceIte, Int.reduceLT, Int.reduceLE, Int.reducePow, Int.reduceNeg, Int.reduceAdd, Int.reduceMul, Int.reduceSub, Int.reduceEq, Nat.reduceAdd, Nat.reducePow, Nat.reduceLT, Nat.reduceMul, Nat.reduceSub, Nat.reduceLeDiff, Nat.reduceEqDiff, and_self, or_self]; rfl) (fun z => nomatch z) rfl
end
end Ev

/-! K01g: this law. -/
namespace Ev
open PySem PySem.Spec PyProof.Rows L2
/-- slots: 0 one, 1 two, 2 k -/
def ir__law_lead (f__law_common : Nat) : List Sx := [.set 2 false (.call f__law_common [(.nm 0), (.nm 1)]),
  .ret (.tup [(.slc (.nm 0) [(.nm 2)] []), (.slc (.nm 1) [(.nm 2)] [])])]
/-! ### this law -/
def gls : List Str := ["LETTERS", "MOST"]
abbrev st_is_word : Stmt := PySem.Challenge.pw_eachtoone_k01_words_and_leads.main.body.getD 3 (.Pass ⟨0, 0, 0, 0⟩)
abbrev st_is_short : Stmt := PySem.Challenge.pw_eachtoone_k01_words_and_leads.main.body.getD 4 (.Pass ⟨0, 0, 0, 0⟩)
abbrev st_common : Stmt := PySem.Challenge.pw_eachtoone_k01_words_and_leads.main.body.getD 5 (.Pass ⟨0, 0, 0, 0⟩)
abbrev st_lead : Stmt := PySem.Challenge.pw_eachtoone_k01_words_and_leads.main.body.getD 6 (.Pass ⟨0, 0, 0, 0⟩)
abbrev st_moved : Stmt := PySem.Challenge.pw_eachtoone_k01_words_and_leads.main.body.getD 7 (.Pass ⟨0, 0, 0, 0⟩)
abbrev st_is_clash : Stmt := PySem.Challenge.pw_eachtoone_k01_words_and_leads.main.body.getD 8 (.Pass ⟨0, 0, 0, 0⟩)
abbrev st_words_of : Stmt := PySem.Challenge.pw_eachtoone_k01_words_and_leads.main.body.getD 9 (.Pass ⟨0, 0, 0, 0⟩)
abbrev st_words_up_to : Stmt := PySem.Challenge.pw_eachtoone_k01_words_and_leads.main.body.getD 10 (.Pass ⟨0, 0, 0, 0⟩)
abbrev st_before : Stmt := PySem.Challenge.pw_eachtoone_k01_words_and_leads.main.body.getD 11 (.Pass ⟨0, 0, 0, 0⟩)
abbrev st__law_same : Stmt := PySem.Challenge.pw_eachtoone_k01_words_and_leads.main.body.getD 13 (.Pass ⟨0, 0, 0, 0⟩)
abbrev st__law_pool : Stmt := PySem.Challenge.pw_eachtoone_k01_words_and_leads.main.body.getD 14 (.Pass ⟨0, 0, 0, 0⟩)
abbrev st__law_spread : Stmt := PySem.Challenge.pw_eachtoone_k01_words_and_leads.main.body.getD 15 (.Pass ⟨0, 0, 0, 0⟩)
abbrev st__law_draw : Stmt := PySem.Challenge.pw_eachtoone_k01_words_and_leads.main.body.getD 16 (.Pass ⟨0, 0, 0, 0⟩)
abbrev st__law_pick : Stmt := PySem.Challenge.pw_eachtoone_k01_words_and_leads.main.body.getD 17 (.Pass ⟨0, 0, 0, 0⟩)
abbrev st__law_odd_values : Stmt := PySem.Challenge.pw_eachtoone_k01_words_and_leads.main.body.getD 18 (.Pass ⟨0, 0, 0, 0⟩)
abbrev st__law_word : Stmt := PySem.Challenge.pw_eachtoone_k01_words_and_leads.main.body.getD 19 (.Pass ⟨0, 0, 0, 0⟩)
abbrev st__law_words : Stmt := PySem.Challenge.pw_eachtoone_k01_words_and_leads.main.body.getD 20 (.Pass ⟨0, 0, 0, 0⟩)
abbrev st__law_common : Stmt := PySem.Challenge.pw_eachtoone_k01_words_and_leads.main.body.getD 21 (.Pass ⟨0, 0, 0, 0⟩)
abbrev st__law_lead : Stmt := PySem.Challenge.pw_eachtoone_k01_words_and_leads.main.body.getD 22 (.Pass ⟨0, 0, 0, 0⟩)
abbrev st__law_is_word : Stmt := PySem.Challenge.pw_eachtoone_k01_words_and_leads.main.body.getD 23 (.Pass ⟨0, 0, 0, 0⟩)
abbrev st__law_before : Stmt := PySem.Challenge.pw_eachtoone_k01_words_and_leads.main.body.getD 24 (.Pass ⟨0, 0, 0, 0⟩)
abbrev st_law : Stmt := PySem.Challenge.pw_eachtoone_k01_words_and_leads.main.body.getD 25 (.Pass ⟨0, 0, 0, 0⟩)
def d_is_word : Df := ⟨"is_word", ["value"], ["value", "sign"], st_is_word, false, false, ir_is_word 0⟩
def d_is_short : Df := ⟨"is_short", ["value"], ["value"], st_is_short, false, false, ir_is_short 0 1⟩
def d_common : Df := ⟨"common", ["one", "two"], ["one", "two", "most", "k"], st_common, false, false, ir_common ⟩
def d_lead : Df := ⟨"lead", ["one", "two"], ["one", "two", "many"], st_lead, false, false, ir_lead 2⟩
def d_moved : Df := ⟨"moved", ["pair", "one", "two"], ["pair", "one", "two"], st_moved, false, false, ir_moved 3⟩
def d_is_clash : Df := ⟨"is_clash", ["pair"], ["pair"], st_is_clash, false, false, ir_is_clash ⟩
def d_words_of : Df := ⟨"words_of", ["many"], ["many", "found", "_", "word", "sign"], st_words_of, false, false, ir_words_of 0⟩
def d_words_up_to : Df := ⟨"words_up_to", ["most"], ["most", "many", "word"], st_words_up_to, false, false, ir_words_up_to 6⟩
def d_before : Df := ⟨"before", ["one", "two"], ["one", "two"], st_before, false, false, ir_before ⟩
def d__law_same : Df := ⟨"_law_same", ["actual", "due"], ["actual", "due", "k"], st__law_same, false, false, ir__law_same 9⟩
def d__law_pool : Df := ⟨"_law_pool", ["script"], ["script", "salt", "cell"], st__law_pool, false, true, ir__law_pool ⟩
def d__law_spread : Df := ⟨"_law_spread", ["cell"], ["cell", "mixed", "total", "k"], st__law_spread, false, false, ir__law_spread ⟩
def d__law_draw : Df := ⟨"_law_draw", ["pool", "many"], ["pool", "many", "cell", "mixed", "value"], st__law_draw, true, false, ir__law_draw 11⟩
def d__law_pick : Df := ⟨"_law_pick", ["pool", "items"], ["pool", "items"], st__law_pick, true, false, ir__law_pick 12⟩
def d__law_odd_values : Df := ⟨"_law_odd_values", [], ["deep", "k"], st__law_odd_values, false, false, ir__law_odd_values ⟩
def d__law_word : Df := ⟨"_law_word", ["pool", "most"], ["pool", "most", "k"], st__law_word, true, false, ir__law_word 12 13⟩
def d__law_words : Df := ⟨"_law_words", ["most"], ["most", "found", "level", "k", "later", "word", "sign"], st__law_words, false, false, ir__law_words ⟩
def d__law_common : Df := ⟨"_law_common", ["one", "two"], ["one", "two", "k"], st__law_common, false, false, ir__law_common ⟩
def d__law_lead : Df := ⟨"_law_lead", ["one", "two"], ["one", "two", "k"], st__law_lead, false, false, ir__law_lead 17⟩
def d__law_is_word : Df := ⟨"_law_is_word", ["value"], ["value", "sign"], st__law_is_word, false, false, ir__law_is_word ⟩
def d__law_before : Df := ⟨"_law_before", ["one", "two"], ["one", "two"], st__law_before, false, false, ir__law_before ⟩
def d_law : Df := ⟨"law", ["script"], ["script", "pool", "turn", "start", "one", "two", "many", "pair", "more", "other", "value", "good", "most", "every", "word"], st_law, false, false, ir_law 0 1 2 3 4 5 6 7 8 9 10 12 13 14 15 16 17 18 19 20⟩
def tab : List Df := [d_is_word, d_is_short, d_common, d_lead, d_moved, d_is_clash, d_words_of, d_words_up_to, d_before, d__law_same, d__law_pool, d__law_spread, d__law_draw, d__law_pick, d__law_odd_values, d__law_word, d__law_words, d__law_common, d__law_lead, d__law_is_word, d__law_before, d_law]
def Cs : Nat → PyData
  | 0 => (PyData.str (S [97, 98, 99]))
  | 1 => (PyData.int 9)
  | _ => PyData.none
theorem s_is_word : FnScope d_is_word.N d_is_word.ps (defScope st_is_word) := ⟨rfl, rfl, rfl, by decide +kernel, rfl, by decide +kernel, by decide +kernel⟩
theorem c_is_word : chkSL ⟨d_is_word.N, tab.map fun D => (D.name, D.ps.length), gls⟩ (defScope st_is_word) (fun _ => true) d_is_word.ir (defBody st_is_word) = true := by decide +kernel
theorem s_is_short : FnScope d_is_short.N d_is_short.ps (defScope st_is_short) := ⟨rfl, rfl, rfl, by decide +kernel, rfl, by decide +kernel, by decide +kernel⟩
theorem c_is_short : chkSL ⟨d_is_short.N, tab.map fun D => (D.name, D.ps.length), gls⟩ (defScope st_is_short) (fun _ => true) d_is_short.ir (defBody st_is_short) = true := by decide +kernel
theorem s_common : FnScope d_common.N d_common.ps (defScope st_common) := ⟨rfl, rfl, rfl, by decide +kernel, rfl, by decide +kernel, by decide +kernel⟩
theorem c_common : chkSL ⟨d_common.N, tab.map fun D => (D.name, D.ps.length), gls⟩ (defScope st_common) (fun _ => true) d_common.ir (defBody st_common) = true := by decide +kernel
theorem s_lead : FnScope d_lead.N d_lead.ps (defScope st_lead) := ⟨rfl, rfl, rfl, by decide +kernel, rfl, by decide +kernel, by decide +kernel⟩
theorem c_lead : chkSL ⟨d_lead.N, tab.map fun D => (D.name, D.ps.length), gls⟩ (defScope st_lead) (fun _ => true) d_lead.ir (defBody st_lead) = true := by decide +kernel
theorem s_moved : FnScope d_moved.N d_moved.ps (defScope st_moved) := ⟨rfl, rfl, rfl, by decide +kernel, rfl, by decide +kernel, by decide +kernel⟩
theorem c_moved : chkSL ⟨d_moved.N, tab.map fun D => (D.name, D.ps.length), gls⟩ (defScope st_moved) (fun _ => true) d_moved.ir (defBody st_moved) = true := by decide +kernel
theorem s_is_clash : FnScope d_is_clash.N d_is_clash.ps (defScope st_is_clash) := ⟨rfl, rfl, rfl, by decide +kernel, rfl, by decide +kernel, by decide +kernel⟩
theorem c_is_clash : chkSL ⟨d_is_clash.N, tab.map fun D => (D.name, D.ps.length), gls⟩ (defScope st_is_clash) (fun _ => true) d_is_clash.ir (defBody st_is_clash) = true := by decide +kernel
theorem s_words_of : FnScope d_words_of.N d_words_of.ps (defScope st_words_of) := ⟨rfl, rfl, rfl, by decide +kernel, rfl, by decide +kernel, by decide +kernel⟩
theorem c_words_of : chkSL ⟨d_words_of.N, tab.map fun D => (D.name, D.ps.length), gls⟩ (defScope st_words_of) (fun _ => true) d_words_of.ir (defBody st_words_of) = true := by decide +kernel
theorem s_words_up_to : FnScope d_words_up_to.N d_words_up_to.ps (defScope st_words_up_to) := ⟨rfl, rfl, rfl, by decide +kernel, rfl, by decide +kernel, by decide +kernel⟩
theorem c_words_up_to : chkSL ⟨d_words_up_to.N, tab.map fun D => (D.name, D.ps.length), gls⟩ (defScope st_words_up_to) (fun _ => true) d_words_up_to.ir (defBody st_words_up_to) = true := by decide +kernel
theorem s_before : FnScope d_before.N d_before.ps (defScope st_before) := ⟨rfl, rfl, rfl, by decide +kernel, rfl, by decide +kernel, by decide +kernel⟩
theorem c_before : chkSL ⟨d_before.N, tab.map fun D => (D.name, D.ps.length), gls⟩ (defScope st_before) (fun _ => true) d_before.ir (defBody st_before) = true := by decide +kernel
theorem s__law_same : FnScope d__law_same.N d__law_same.ps (defScope st__law_same) := ⟨rfl, rfl, rfl, by decide +kernel, rfl, by decide +kernel, by decide +kernel⟩
theorem c__law_same : chkSL ⟨d__law_same.N, tab.map fun D => (D.name, D.ps.length), gls⟩ (defScope st__law_same) (fun _ => true) d__law_same.ir (defBody st__law_same) = true := by decide +kernel
theorem s__law_pool : FnScope d__law_pool.N d__law_pool.ps (defScope st__law_pool) := ⟨rfl, rfl, rfl, by decide +kernel, rfl, by decide +kernel, by decide +kernel⟩
theorem c__law_pool : chkSL ⟨d__law_pool.N, tab.map fun D => (D.name, D.ps.length), gls⟩ (defScope st__law_pool) (fun _ => true) d__law_pool.ir (defBody st__law_pool) = true := by decide +kernel
theorem s__law_spread : FnScope d__law_spread.N d__law_spread.ps (defScope st__law_spread) := ⟨rfl, rfl, rfl, by decide +kernel, rfl, by decide +kernel, by decide +kernel⟩
theorem c__law_spread : chkSL ⟨d__law_spread.N, tab.map fun D => (D.name, D.ps.length), gls⟩ (defScope st__law_spread) (fun _ => true) d__law_spread.ir (defBody st__law_spread) = true := by decide +kernel
theorem s__law_draw : FnScope d__law_draw.N d__law_draw.ps (defScope st__law_draw) := ⟨rfl, rfl, rfl, by decide +kernel, rfl, by decide +kernel, by decide +kernel⟩
theorem c__law_draw : chkSL ⟨d__law_draw.N, tab.map fun D => (D.name, D.ps.length), gls⟩ (defScope st__law_draw) (fun _ => true) d__law_draw.ir (defBody st__law_draw) = true := by decide +kernel
theorem s__law_pick : FnScope d__law_pick.N d__law_pick.ps (defScope st__law_pick) := ⟨rfl, rfl, rfl, by decide +kernel, rfl, by decide +kernel, by decide +kernel⟩
theorem c__law_pick : chkSL ⟨d__law_pick.N, tab.map fun D => (D.name, D.ps.length), gls⟩ (defScope st__law_pick) (fun _ => true) d__law_pick.ir (defBody st__law_pick) = true := by decide +kernel
theorem s__law_odd_values : FnScope d__law_odd_values.N d__law_odd_values.ps (defScope st__law_odd_values) := ⟨rfl, rfl, rfl, by decide +kernel, rfl, by decide +kernel, by decide +kernel⟩
theorem c__law_odd_values : chkSL ⟨d__law_odd_values.N, tab.map fun D => (D.name, D.ps.length), gls⟩ (defScope st__law_odd_values) (fun _ => true) d__law_odd_values.ir (defBody st__law_odd_values) = true := by decide +kernel
theorem s__law_word : FnScope d__law_word.N d__law_word.ps (defScope st__law_word) := ⟨rfl, rfl, rfl, by decide +kernel, rfl, by decide +kernel, by decide +kernel⟩
theorem c__law_word : chkSL ⟨d__law_word.N, tab.map fun D => (D.name, D.ps.length), gls⟩ (defScope st__law_word) (fun _ => true) d__law_word.ir (defBody st__law_word) = true := by decide +kernel
theorem s__law_words : FnScope d__law_words.N d__law_words.ps (defScope st__law_words) := ⟨rfl, rfl, rfl, by decide +kernel, rfl, by decide +kernel, by decide +kernel⟩
theorem c__law_words : chkSL ⟨d__law_words.N, tab.map fun D => (D.name, D.ps.length), gls⟩ (defScope st__law_words) (fun _ => true) d__law_words.ir (defBody st__law_words) = true := by decide +kernel
theorem s__law_common : FnScope d__law_common.N d__law_common.ps (defScope st__law_common) := ⟨rfl, rfl, rfl, by decide +kernel, rfl, by decide +kernel, by decide +kernel⟩
theorem c__law_common : chkSL ⟨d__law_common.N, tab.map fun D => (D.name, D.ps.length), gls⟩ (defScope st__law_common) (fun _ => true) d__law_common.ir (defBody st__law_common) = true := by decide +kernel
theorem s__law_lead : FnScope d__law_lead.N d__law_lead.ps (defScope st__law_lead) := ⟨rfl, rfl, rfl, by decide +kernel, rfl, by decide +kernel, by decide +kernel⟩
theorem c__law_lead : chkSL ⟨d__law_lead.N, tab.map fun D => (D.name, D.ps.length), gls⟩ (defScope st__law_lead) (fun _ => true) d__law_lead.ir (defBody st__law_lead) = true := by decide +kernel
theorem s__law_is_word : FnScope d__law_is_word.N d__law_is_word.ps (defScope st__law_is_word) := ⟨rfl, rfl, rfl, by decide +kernel, rfl, by decide +kernel, by decide +kernel⟩
theorem c__law_is_word : chkSL ⟨d__law_is_word.N, tab.map fun D => (D.name, D.ps.length), gls⟩ (defScope st__law_is_word) (fun _ => true) d__law_is_word.ir (defBody st__law_is_word) = true := by decide +kernel
theorem s__law_before : FnScope d__law_before.N d__law_before.ps (defScope st__law_before) := ⟨rfl, rfl, rfl, by decide +kernel, rfl, by decide +kernel, by decide +kernel⟩
theorem c__law_before : chkSL ⟨d__law_before.N, tab.map fun D => (D.name, D.ps.length), gls⟩ (defScope st__law_before) (fun _ => true) d__law_before.ir (defBody st__law_before) = true := by decide +kernel
theorem s_law : FnScope d_law.N d_law.ps (defScope st_law) := ⟨rfl, rfl, rfl, by decide +kernel, rfl, by decide +kernel, by decide +kernel⟩
theorem c_law : chkSL ⟨d_law.N, tab.map fun D => (D.name, D.ps.length), gls⟩ (defScope st_law) (fun _ => true) d_law.ir (defBody st_law) = true := by decide +kernel
def LEV : Nat := 100
theorem v_spr (k : Nat) (c : Int) : ∃ v, (lev tab Cs (k + 1) 11).sem [.int c] = some (.int v, .none) := spread_sem (F := lev tab Cs k) (C := Cs) c
theorem v_dr (k : Nat) : Drw (lev tab Cs (k + 2)) 12 dP dR := ⟨rfl, rfl, fun p as hp ⟨m, e, h0, h1⟩ => by
  subst e
  obtain ⟨v, p', e, h2, h3, h4⟩ := draw_sem (F := lev tab Cs (k + 1)) (C := Cs) (sp := 11) (v_spr k) rfl rfl hp h0 h1
  exact ⟨.int v, p', e, ⟨m, v, rfl, rfl, h2, h3⟩, h4⟩⟩
theorem v_pk (k : Nat) : Drw (lev tab Cs (k + 3)) 13 pP pR := ⟨rfl, rfl, fun p as hp ⟨xs, e, h0, h1⟩ => by
  rcases e with e | e
  · subst e
    obtain ⟨x, p', e, h2, h3⟩ := pick_sem (F := lev tab Cs (k + 2)) (C := Cs) (v_dr k) hp h0 h1
    exact ⟨x, p', e, ⟨xs, .inl rfl, h2⟩, h3⟩
  · subst e
    obtain ⟨x, p', e, h2, h3⟩ := pick_semT (F := lev tab Cs (k + 2)) (C := Cs) (v_dr k) hp h0 h1
    exact ⟨x, p', e, ⟨xs, .inr rfl, h2⟩, h3⟩⟩
theorem v_wd (k : Nat) : Drw (lev tab Cs (k + 4)) 15 wP wR := ⟨rfl, rfl, fun p as hp ⟨m, e, h0, h1⟩ => by
  subst e
  obtain ⟨d, p', e, ⟨w, rfl, _, h2⟩, h3⟩ := word_sem (F := lev tab Cs (k + 3)) (C := Cs) (v_dr (k + 1)) (v_pk k) hp h0 h1
  exact ⟨_, p', e, ⟨m, w, rfl, rfl, h2⟩, h3⟩⟩
theorem v_isw (k : Nat) : Isw (lev tab Cs (k + 1)) 0 := ⟨rfl, rfl, fun d hd => is_word_sem (F := lev tab Cs k) (C := Cs) rfl hd⟩
theorem v_lisw (k : Nat) : Isw (lev tab Cs (k + 1)) 19 := ⟨rfl, rfl, fun d hd => lis_word_sem (F := lev tab Cs k) (C := Cs) hd⟩
theorem v_cm (k : Nat) : Cmn (lev tab Cs (k + 1)) 2 := ⟨rfl, rfl, fun a b h1 h2 => common_sem (F := lev tab Cs k) (C := Cs) h1 h2⟩
theorem v_lcm (k : Nat) : Cmn (lev tab Cs (k + 1)) 17 := ⟨rfl, rfl, fun a b h1 h2 => lcommon_sem (F := lev tab Cs k) (C := Cs) h1 h2⟩
theorem v_ld (k : Nat) : Led (lev tab Cs (k + 2)) 3 := ⟨rfl, rfl, fun a b h1 h2 => lead_sem (F := lev tab Cs (k + 1)) (C := Cs) (v_cm k) h1 h2⟩
theorem v_lld (k : Nat) : Led (lev tab Cs (k + 2)) 18 := ⟨rfl, rfl, fun a b h1 h2 => lead_sem (F := lev tab Cs (k + 1)) (C := Cs) (v_lcm k) h1 h2⟩
theorem v_wof (k : Nat) : Wof (lev tab Cs (k + 1)) 6 := ⟨rfl, rfl, fun n z hn hz => words_of_sem (F := lev tab Cs k) (C := Cs) rfl hn hz⟩
theorem v_env : Env1 (lev tab Cs 99) where
  i0 := v_isw 98
  i1 := ⟨rfl, rfl⟩
  s1 := fun d hd => is_short_sem (F := lev tab Cs 98) (C := Cs) (v_isw 97) rfl hd
  i2 := v_cm 98
  i3 := v_ld 97
  i4 := ⟨rfl, rfl⟩
  s4 := fun x y a b h1 h2 => moved_sem (F := lev tab Cs 98) (C := Cs) (v_ld 96) h1 h2
  i5 := ⟨rfl, rfl⟩
  s5 := fun x y => clash_sem (F := lev tab Cs 98) (C := Cs)
  i6 := v_wof 98
  i7 := ⟨rfl, rfl⟩
  s7 := fun n z hn hz => words_up_sem (F := lev tab Cs 98) (C := Cs) (v_wof 97) hn hz
  i8 := ⟨rfl, rfl⟩
  s8 := fun a b h1 h2 => before_sem (F := lev tab Cs 98) (C := Cs) h1 h2
  i9 := ⟨rfl, rfl⟩
  s9 := fun d hp hd => same_lev (T := tab) (C := Cs) (i := 9) (D := d__law_same) rfl rfl rfl rfl rfl 99 d hp (by omega)
  f10 := rfl
  o10 := rfl
  s10 := fun ns => pool_sem (F := lev tab Cs 98) (C := Cs) ns
  i12 := v_dr 97
  i13 := v_pk 96
  i14 := ⟨rfl, rfl⟩
  s14 := by
    obtain ⟨xs, e, h⟩ := odd_sem (F := lev tab Cs 98) (C := Cs)
    have q : (lev tab Cs 99 14).sem = semOf (lev tab Cs 98) Cs 2 false false ir__law_odd_values := rfl
    rw [← q] at e
    exact ⟨xs, e, h⟩
  i15 := v_wd 95
  i16 := ⟨rfl, rfl⟩
  s16 := fun n z hn hz => lwords_sem (F := lev tab Cs 98) (C := Cs) hn hz
  i17 := v_lcm 98
  i18 := v_lld 97
  i19 := v_lisw 98
  i20 := ⟨rfl, rfl⟩
  s20 := fun a b h1 h2 => lbefore_sem (F := lev tab Cs 98) (C := Cs) h1 h2
theorem law_sem (ns : List Int) (h : ns.length ≤ 63) : ∃ p, (lev tab Cs LEV 21).sem [.list (ns.map .int)] = some (.bool true, p) := by
  have e := law_core (F := lev tab Cs 99) (C := Cs) v_env ns
  have q : (lev tab Cs LEV 21).sem = semOf (lev tab Cs 99) Cs 15 false false (ir_law 0 1 2 3 4 5 6 7 8 9 10 12 13 14 15 16 17 18 19 20) := rfl
  rw [← q] at e
  exact ⟨_, e⟩
section
/-- what is asked of the head for one def -/
structure HdF (K : PySem.W.Frag) (x : Str) (st : Stmt) (f : Addr) : Prop where
  n : PySem.W.nsIn K mainGlobals x = some (some (.ref f))
  l : ∃ (oc : Value) (od : Option Addr) (kV doc pm : Value) (an : Option Addr) (cdv ct : Value) (osl : Array (Option Value)), K.lookup f = some ⟨oc, od, .func (PySem.W.fnOf x x (defArgs st) (defBody st) (defScope st) .none kV doc pm an cdv ct), osl⟩ ∧ PySem.W.codeIn K cdv x = true
  k : PySem.W.keepIn K (.ref f) = true
theorem HdF.mk' {K : PySem.W.Frag} {x : Str} {st : Stmt} {f : Addr} {oc : Value} {od : Option Addr} {kV doc pm : Value} {an : Option Addr} {cdv ct : Value} {osl : Array (Option Value)} (n : PySem.W.nsIn K mainGlobals x = some (some (.ref f)))
    (l : K.lookup f = some ⟨oc, od, .func (PySem.W.fnOf x x (defArgs st) (defBody st) (defScope st) .none kV doc pm an cdv ct), osl⟩) (c : PySem.W.codeIn K cdv x = true) (k : PySem.W.keepIn K (.ref f) = true) : HdF K x st f := ⟨n, ⟨oc, od, kV, doc, pm, an, cdv, ct, osl, l, c⟩, k⟩
theorem HdF.row {K : PySem.W.Frag} {h : Heap} {mg : Str → Option Value} {T : List Df} {gl : List Str} {D : Df} {f : Addr} (X : K.In h) (G : h.Ns mainGlobals mg) (F : HdF K D.name D.st f) (s : FnScope D.N D.ps (defScope D.st))
    (c : chkSL ⟨D.N, T.map fun D => (D.name, D.ps.length), gl⟩ (defScope D.st) (fun _ => true) D.ir (defBody D.st) = true)
    (b : ∀ (kV doc pm : Value) (an : Option Addr) (cdv ct : Value) (us : List Value), us.length = D.ps.length → bindArgs (PySem.W.fnOf D.name D.name (defArgs D.st) (defBody D.st) (defScope D.st) .none kV doc pm an cdv ct) ⟨us, []⟩ = pure (D.ps.zip us)) : Row K mg T gl D := by
  obtain ⟨oc, od, kV, doc, pm, an, cdv, ct, osl, l, hc⟩ := F.l
  have U := fun_mk (st := D.st) l hc F.k
  exact ⟨⟨f, _, U, PySem.W.mg_of X G F.n, U.binds b⟩, s, c⟩
end
def spLaw (K : PySem.W.Frag) : Sp := fun vs H Q _ => ∃ (a : Addr) (ns : List Int), vs = [.ref a] ∧ SqL K H a (ns.map V.int) ∧ ns.length ≤ 63 ∧ ∀ H', Q (.bl true) H'
theorem all_mk {l : PySem.W.OpenLaw} {w : World} {K : PySem.W.Frag} {h : Heap} {mg : Str → Option Value} {fa : Addr} (X : K.In h) (G : h.Ns mainGlobals mg) (hfa : mg "law" = some (.ref fa)) {f0 f1 f2 f3 f4 f5 f6 f7 f8 f9 f10 f11 f12 f13 f14 f15 f16 f17 f18 f19 f20 f21 : Addr} {u0 u1 : Value}
    (h0 : HdF K "is_word" st_is_word f0) (h1 : HdF K "is_short" st_is_short f1) (h2 : HdF K "common" st_common f2) (h3 : HdF K "lead" st_lead f3) (h4 : HdF K "moved" st_moved f4) (h5 : HdF K "is_clash" st_is_clash f5) (h6 : HdF K "words_of" st_words_of f6) (h7 : HdF K "words_up_to" st_words_up_to f7) (h8 : HdF K "before" st_before f8) (h9 : HdF K "_law_same" st__law_same f9) (h10 : HdF K "_law_pool" st__law_pool f10) (h11 : HdF K "_law_spread" st__law_spread f11) (h12 : HdF K "_law_draw" st__law_draw f12) (h13 : HdF K "_law_pick" st__law_pick f13) (h14 : HdF K "_law_odd_values" st__law_odd_values f14) (h15 : HdF K "_law_word" st__law_word f15) (h16 : HdF K "_law_words" st__law_words f16) (h17 : HdF K "_law_common" st__law_common f17) (h18 : HdF K "_law_lead" st__law_lead f18) (h19 : HdF K "_law_is_word" st__law_is_word f19) (h20 : HdF K "_law_before" st__law_before f20) (h21 : HdF K "law" st_law f21)
    (z0 : PySem.W.nsIn K mainGlobals "len" = some none) (z1 : PySem.W.nsIn K mainGlobals "all" = some none) (z2 : PySem.W.nsIn K mainGlobals "any" = some none) (z3 : PySem.W.nsIn K mainGlobals "list" = some none) (z4 : PySem.W.nsIn K mainGlobals "tuple" = some none) (z5 : PySem.W.nsIn K mainGlobals "int" = some none) (z6 : PySem.W.nsIn K mainGlobals "sum" = some none) (z7 : PySem.W.nsIn K mainGlobals "min" = some none) (z8 : PySem.W.nsIn K mainGlobals "max" = some none) (z9 : PySem.W.nsIn K mainGlobals "range" = some none) (z10 : PySem.W.nsIn K mainGlobals "isinstance" = some none) (z11 : PySem.W.nsIn K mainGlobals "str" = some none) (z12 : PySem.W.nsIn K mainGlobals "bool" = some none) (z13 : PySem.W.nsIn K mainGlobals "sorted" = some none) (z14 : PySem.W.nsIn K mainGlobals "set" = some none) (g0 : PySem.W.nsIn K mainGlobals "LETTERS" = some (some u0)) (r0 : RelV (.str (S [97, 98, 99])) u0) (g1 : PySem.W.nsIn K mainGlobals "MOST" = some (some u1)) (r1 : RelV (.int 9) u1) :
    ∃ fd : FuncData, (∀ (s : Shared) (v : Value), BindsTo s fd ⟨[v], []⟩ [("script", v)]) ∧ ∀ base : Heap, K.In base → base.Ns mainGlobals mg → FnOk l.prog w K mg base CX0 LEV fa fd ["script"] (spLaw K) := by
  have hT : ∀ D ∈ tab, Row K mg tab gls D := by
    intro D hD
    simp only [tab, List.mem_cons, List.mem_nil_iff, or_false] at hD
    rcases hD with rfl | rfl | rfl | rfl | rfl | rfl | rfl | rfl | rfl | rfl | rfl | rfl | rfl | rfl | rfl | rfl | rfl | rfl | rfl | rfl | rfl | rfl
    · exact HdF.row (D := d_is_word) X G h0 s_is_word c_is_word fun _ _ _ _ _ _ us hl => match us, hl with | [_], _ => rfl
    · exact HdF.row (D := d_is_short) X G h1 s_is_short c_is_short fun _ _ _ _ _ _ us hl => match us, hl with | [_], _ => rfl
    · exact HdF.row (D := d_common) X G h2 s_common c_common fun _ _ _ _ _ _ us hl => match us, hl with | [_, _], _ => rfl
    · exact HdF.row (D := d_lead) X G h3 s_lead c_lead fun _ _ _ _ _ _ us hl => match us, hl with | [_, _], _ => rfl
    · exact HdF.row (D := d_moved) X G h4 s_moved c_moved fun _ _ _ _ _ _ us hl => match us, hl with | [_, _, _], _ => rfl
    · exact HdF.row (D := d_is_clash) X G h5 s_is_clash c_is_clash fun _ _ _ _ _ _ us hl => match us, hl with | [_], _ => rfl
    · exact HdF.row (D := d_words_of) X G h6 s_words_of c_words_of fun _ _ _ _ _ _ us hl => match us, hl with | [_], _ => rfl
    · exact HdF.row (D := d_words_up_to) X G h7 s_words_up_to c_words_up_to fun _ _ _ _ _ _ us hl => match us, hl with | [_], _ => rfl
    · exact HdF.row (D := d_before) X G h8 s_before c_before fun _ _ _ _ _ _ us hl => match us, hl with | [_, _], _ => rfl
    · exact HdF.row (D := d__law_same) X G h9 s__law_same c__law_same fun _ _ _ _ _ _ us hl => match us, hl with | [_, _], _ => rfl
    · exact HdF.row (D := d__law_pool) X G h10 s__law_pool c__law_pool fun _ _ _ _ _ _ us hl => match us, hl with | [_], _ => rfl
    · exact HdF.row (D := d__law_spread) X G h11 s__law_spread c__law_spread fun _ _ _ _ _ _ us hl => match us, hl with | [_], _ => rfl
    · exact HdF.row (D := d__law_draw) X G h12 s__law_draw c__law_draw fun _ _ _ _ _ _ us hl => match us, hl with | [_, _], _ => rfl
    · exact HdF.row (D := d__law_pick) X G h13 s__law_pick c__law_pick fun _ _ _ _ _ _ us hl => match us, hl with | [_, _], _ => rfl
    · exact HdF.row (D := d__law_odd_values) X G h14 s__law_odd_values c__law_odd_values fun _ _ _ _ _ _ us hl => match us, hl with | [], _ => rfl
    · exact HdF.row (D := d__law_word) X G h15 s__law_word c__law_word fun _ _ _ _ _ _ us hl => match us, hl with | [_, _], _ => rfl
    · exact HdF.row (D := d__law_words) X G h16 s__law_words c__law_words fun _ _ _ _ _ _ us hl => match us, hl with | [_], _ => rfl
    · exact HdF.row (D := d__law_common) X G h17 s__law_common c__law_common fun _ _ _ _ _ _ us hl => match us, hl with | [_, _], _ => rfl
    · exact HdF.row (D := d__law_lead) X G h18 s__law_lead c__law_lead fun _ _ _ _ _ _ us hl => match us, hl with | [_, _], _ => rfl
    · exact HdF.row (D := d__law_is_word) X G h19 s__law_is_word c__law_is_word fun _ _ _ _ _ _ us hl => match us, hl with | [_], _ => rfl
    · exact HdF.row (D := d__law_before) X G h20 s__law_before c__law_before fun _ _ _ _ _ _ us hl => match us, hl with | [_, _], _ => rfl
    · exact HdF.row (D := d_law) X G h21 s_law c_law fun _ _ _ _ _ _ us hl => match us, hl with | [_], _ => rfl
  have hb : ∀ x ∈ bltns, mg x = none := by
    intro x hx
    simp only [bltns, List.mem_cons, List.mem_nil_iff, or_false] at hx
    rcases hx with rfl | rfl | rfl | rfl | rfl | rfl | rfl | rfl | rfl | rfl | rfl | rfl | rfl | rfl | rfl
    · exact PySem.W.mg_none_of X G z0
    · exact PySem.W.mg_none_of X G z1
    · exact PySem.W.mg_none_of X G z2
    · exact PySem.W.mg_none_of X G z3
    · exact PySem.W.mg_none_of X G z4
    · exact PySem.W.mg_none_of X G z5
    · exact PySem.W.mg_none_of X G z6
    · exact PySem.W.mg_none_of X G z7
    · exact PySem.W.mg_none_of X G z8
    · exact PySem.W.mg_none_of X G z9
    · exact PySem.W.mg_none_of X G z10
    · exact PySem.W.mg_none_of X G z11
    · exact PySem.W.mg_none_of X G z12
    · exact PySem.W.mg_none_of X G z13
    · exact PySem.W.mg_none_of X G z14
  have hg : ∀ g x, gls[g]? = some x → ∃ u v, mg x = some u ∧ RelV v u ∧ ∀ H, Rp K H (Cs g) v := by
    intro g x e
    rcases g with _ | g
    · cases e
      exact ⟨u0, _, PySem.W.mg_of X G g0, r0, fun _ => rp_of_str⟩
    rcases g with _ | g
    · cases e
      exact ⟨u1, _, PySem.W.mg_of X G g1, r1, fun _ => rp_of_int⟩
    cases e
  have q := fun base : Heap => tab_ok (P := l.prog) (w := w) (base := base) hT hb hg LEV 21 d_law rfl
  obtain ⟨oc, od, kV, doc, pm, an, cdv, ct, osl, hl, hc⟩ := h21.l
  have U := fun_mk (st := st_law) hl hc h21.k
  have e := hfa.symm.trans (PySem.W.mg_of X G h21.n)
  cases e
  refine ⟨PySem.W.fnOf "law" "law" (defArgs st_law) (defBody st_law) (defScope st_law) .none kV doc pm an cdv ct, fun s v => .of_eq rfl, fun base hB hN => ?_⟩
  obtain ⟨fa', fd', h1, h2, _, _, st', U'⟩ := q base
  have h2' := hfa.symm.trans h2
  cases h2'
  obtain ⟨_, _, _, _, _, _, _, _, _, e2, e3, _⟩ := U'.ex
  have e4 := e3.symm.trans hl
  simp only [Option.some.injEq, Obj.mk.injEq, Data.func.injEq] at e4
  have e5 := e4.2.2.1
  rw [e5] at h1
  refine h1.imp fun vs H Q E hsp => ?_
  obtain ⟨a, ns, rfl, hS, hn, k⟩ := hsp
  obtain ⟨p, hs⟩ := law_sem ns hn
  refine ⟨rfl, fun _ => False, [.list (ns.map .int)], .bool true, p, (fun _ z => z.elim), hs, .inl ⟨rfl, rfl, ?_, fun v H' hv _ => ?_⟩⟩
  · rw [hid_none]
    simp only [RpL, Rp]
    refine ⟨_, [], rfl, ⟨a, _, rfl, hS, ?_⟩, rfl⟩
    clear hS hs hn
    induction ns with
    | nil => simp only [List.map_nil, RpL]
    | cons n ns ih => simp only [List.map_cons, RpL, Rp]; exact ⟨_, _, rfl, rfl, ih⟩
  · rw [rp_bl hv]
    exact k H'
end Ev
open PySem PySem.W PyProof.Rows
set_option maxRecDepth 100000 in
set_option maxHeartbeats 0 in
theorem PySem.Challenge.cw_eachtoone_k01_words_and_leads_holds : PySem.Challenge.rw_eachtoone_k01_words_and_leads.Holds := by
  w_on; o_law; k_head; (case hw => w_witness2)
  k_fill
  refine L2.walk_of (l := PySem.Challenge.rw_eachtoone_k01_words_and_leads) (n := 63) (k := Ev.LEV) (x := "script") (CX := fun _ => L2.CX0) (sp := fun w => Ev.spLaw _) rfl (by decide) rfl ⟨rfl, by decide, by decide⟩ (fun w h Y => PySem.W.kIn_of Y) ?F (fun _ _ a ns hl _ hS => ⟨a, ns, rfl, hS, hl, fun _ => rfl⟩) fun _ _ _ _ _ z => z
  case F =>
    intro w mg fa h KX G hmg
    refine' Ev.all_mk KX G hmg (Ev.HdF.mk' ?n0 ?l0 ?c0 ?k0) (Ev.HdF.mk' ?n1 ?l1 ?c1 ?k1) (Ev.HdF.mk' ?n2 ?l2 ?c2 ?k2) (Ev.HdF.mk' ?n3 ?l3 ?c3 ?k3) (Ev.HdF.mk' ?n4 ?l4 ?c4 ?k4) (Ev.HdF.mk' ?n5 ?l5 ?c5 ?k5) (Ev.HdF.mk' ?n6 ?l6 ?c6 ?k6) (Ev.HdF.mk' ?n7 ?l7 ?c7 ?k7) (Ev.HdF.mk' ?n8 ?l8 ?c8 ?k8) (Ev.HdF.mk' ?n9 ?l9 ?c9 ?k9) (Ev.HdF.mk' ?n10 ?l10 ?c10 ?k10) (Ev.HdF.mk' ?n11 ?l11 ?c11 ?k11) (Ev.HdF.mk' ?n12 ?l12 ?c12 ?k12) (Ev.HdF.mk' ?n13 ?l13 ?c13 ?k13) (Ev.HdF.mk' ?n14 ?l14 ?c14 ?k14) (Ev.HdF.mk' ?n15 ?l15 ?c15 ?k15) (Ev.HdF.mk' ?n16 ?l16 ?c16 ?k16) (Ev.HdF.mk' ?n17 ?l17 ?c17 ?k17) (Ev.HdF.mk' ?n18 ?l18 ?c18 ?k18) (Ev.HdF.mk' ?n19 ?l19 ?c19 ?k19) (Ev.HdF.mk' ?n20 ?l20 ?c20 ?k20) (Ev.HdF.mk' ?n21 ?l21 ?c21 ?k21) ?z0 ?z1 ?z2 ?z3 ?z4 ?z5 ?z6 ?z7 ?z8 ?z9 ?z10 ?z11 ?z12 ?z13 ?z14 ?gc0 ?gr0 ?gc1 ?gr1
    (case n0 => k_is); (case l0 => k_is); (case c0 => k_is); (case k0 => k_is); (case n1 => k_is); (case l1 => k_is)
    (case c1 => k_is); (case k1 => k_is); (case n2 => k_is); (case l2 => k_is); (case c2 => k_is); (case k2 => k_is)
    (case n3 => k_is); (case l3 => k_is); (case c3 => k_is); (case k3 => k_is); (case n4 => k_is); (case l4 => k_is)
    (case c4 => k_is); (case k4 => k_is); (case n5 => k_is); (case l5 => k_is); (case c5 => k_is); (case k5 => k_is)
    (case n6 => k_is); (case l6 => k_is); (case c6 => k_is); (case k6 => k_is); (case n7 => k_is); (case l7 => k_is)
    (case c7 => k_is); (case k7 => k_is); (case n8 => k_is); (case l8 => k_is); (case c8 => k_is); (case k8 => k_is)
    (case n9 => k_is); (case l9 => k_is); (case c9 => k_is); (case k9 => k_is); (case n10 => k_is); (case l10 => k_is)
    (case c10 => k_is); (case k10 => k_is); (case n11 => k_is); (case l11 => k_is); (case c11 => k_is); (case k11 => k_is)
    (case n12 => k_is); (case l12 => k_is); (case c12 => k_is); (case k12 => k_is); (case n13 => k_is); (case l13 => k_is)
    (case c13 => k_is); (case k13 => k_is); (case n14 => k_is); (case l14 => k_is); (case c14 => k_is); (case k14 => k_is)
    (case n15 => k_is); (case l15 => k_is); (case c15 => k_is); (case k15 => k_is); (case n16 => k_is); (case l16 => k_is)
    (case c16 => k_is); (case k16 => k_is); (case n17 => k_is); (case l17 => k_is); (case c17 => k_is); (case k17 => k_is)
    (case n18 => k_is); (case l18 => k_is); (case c18 => k_is); (case k18 => k_is); (case n19 => k_is); (case l19 => k_is)
    (case c19 => k_is); (case k19 => k_is); (case n20 => k_is); (case l20 => k_is); (case c20 => k_is); (case k20 => k_is)
    (case n21 => k_is); (case l21 => k_is); (case c21 => k_is); (case k21 => k_is); (case z0 => k_is); (case z1 => k_is)
    (case z2 => k_is); (case z3 => k_is); (case z4 => k_is); (case z5 => k_is); (case z6 => k_is); (case z7 => k_is)
    (case z8 => k_is); (case z9 => k_is); (case z10 => k_is); (case z11 => k_is); (case z12 => k_is); (case z13 => k_is)
    (case z14 => k_is); (case gc0 => k_is); (case gc1 => k_is)
    (case gr0 => first | exact rfl | exact ⟨_, rfl⟩)
    (case gr1 => first | exact rfl | exact ⟨_, rfl⟩)
