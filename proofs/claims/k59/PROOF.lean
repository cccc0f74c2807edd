import PyProof.Rows.All
import Wide.All
import OpenK.AllK
import Wide.FinOn
import HandS.ForMost
import HandS.ForExc
import HandS.Wide
import HandS.Zip
import HandS.Rev
import HandS.IsInst
import HandS.TupAny
import HandS.TupMul
import HandS.Deep
import HandS.Style
import HandS.TryMany
import HandS.ExcIs
import HandS.Sort
import PyProof.CallTypeRange
import PySem.Challenge.RW_turngrid_k59_whole_dials_there_and_back
set_option Elab.async false
set_option linter.all false
set_option maxRecDepth 100000
set_option maxHeartbeats 4000000
namespace Tg
open PySem
inductive M (α : Type) where
  | stuck | ex (c : Nat) | ok (a : α)
@[inline] def M.bind {α β : Type} (x : M α) (f : α → M β) : M β := match x with
  | .stuck => .stuck
  | .ex c => .ex c
  | .ok a => f a
instance : Monad M where
  pure := M.ok
  bind := M.bind
@[simp] theorem bind_ok {α β : Type} (a : α) (f : α → M β) : (M.ok a >>= f) = f a := rfl
@[simp] theorem bind_stuck {α β : Type} (f : α → M β) : ((M.stuck : M α) >>= f) = .stuck := rfl
@[simp] theorem bind_ex {α β : Type} (c : Nat) (f : α → M β) : ((M.ex c : M α) >>= f) = .ex c := rfl
@[simp] theorem pure_ok {α : Type} (a : α) : (pure a : M α) = .ok a := rfl
abbrev D := PyData
inductive B where
  | val (d : D) | own (ds : List D)
def B.d : B → D
  | .val d => d
  | .own ds => .list ds
abbrev En := List (Option B)
inductive BOp where
  | add | sub | mul | fdiv | mod | pow
inductive COp where
  | lt | le | gt | ge | eq | ne | isIn | notIn | isN | notN | isB | notB
inductive Bi where
  | abs | len | int | list | tuple | sum | all | min | max | sorted
inductive Ty where
  | int | bool | tuple | list | str
inductive ItK where
  | seq | rng | zip | rev
inductive Tg where
  | nm (i : Nat) | tp (ts : List Tg)
inductive E where
  | var (i : Nat)
  | con (d : D)
  | glob (k : Nat) (d : D)
  | tup (es : List E)
  | lst (es : List E)
  | rep (es : List E) (b : E)
  | bop (o : BOp) (a b : E)
  | neg (a : E)
  | not (a : E)
  | and (a b : E)
  | or (a b : E)
  | cmp (o : COp) (a b : E)
  | ix (a b : E)
  | sl (a : E) (lo hi : List E)
  | sl3 (a : E) (lo hi st : List E)
  | inr (neg : Bool) (a : E) (bs : List E)
  | call0 (k : Nat)
  | bi (f : Bi) (es : List E)
  | isi (a : E) (t : Ty)
  | call (k : Nat) (es : List E)
  | lc (e : E) (t : Tg) (k : ItK) (es : List E) (c : List E) (own : List Nat)
def mulOk (i j : Int) : Bool := decide (i.natAbs.log2 + j.natAbs.log2 < 1000000)
def divOk (i j : Int) : Bool := j != 0 && !Builtin.divisionGoesByPylong i j
def lineOk (n : Nat) : Bool := decide (n < 1000000)
def mulT (xs : List D) (k : Int) : M B := if xs.isEmpty then .stuck else if k = 1 then .ok (.val (.tuple xs)) else if k = 0 then .ok (.val (.tuple [])) else
  if decide (2 ≤ k) && decide (k ≤ 1000) && decide (xs.length ≤ 1000) then .ok (.val (.tuple (List.replicate k.toNat xs).flatten)) else .stuck
def bopD : BOp → D → D → M B
  | .add, .int i, .int j => .ok (.val (.int (i + j)))
  | .add, .list xs, .list ys => if lineOk (xs.length + ys.length) then .ok (.own (xs ++ ys)) else .stuck
  | .add, .tuple xs, .tuple ys => if lineOk (xs.length + ys.length) then .ok (.val (.tuple (xs ++ ys))) else .stuck
  | .sub, .int i, .int j => .ok (.val (.int (i - j)))
  | .mul, .int i, .int j => if mulOk i j then .ok (.val (.int (i * j))) else .stuck
  | .mul, .tuple xs, .int k => mulT xs k
  | .fdiv, .int i, .int j => if divOk i j then .ok (.val (.int (i.fdiv j))) else .stuck
  | .mod, .int i, .int j => if j != 0 then .ok (.val (.int (i.fmod j))) else .stuck
  | .pow, .int i, .int j => if decide (0 ≤ j) && decide (j ≤ 1000000) && decide (i.natAbs < 2 ^ 64) then .ok (.val (.int (i ^ j.toNat))) else .stuck
  | _, _, _ => .stuck
def repD (xs : List D) : D → M B
  | .int k => if decide (-(2 ^ 62) ≤ k) && decide (k < 2 ^ 62) && lineOk (xs.length * k.toNat) then .ok (.own (List.replicate k.toNat xs).flatten) else .stuck
  | _ => .stuck
def eqOk (x y : D) : Bool := SeqAt.shaped x && SeqAt.shaped y
def nonD : D → Bool
  | .none => true
  | _ => false
def cmpD : COp → D → D → M B
  | .lt, .int i, .int j => .ok (.val (.bool (decide (i < j))))
  | .le, .int i, .int j => .ok (.val (.bool (decide (i ≤ j))))
  | .gt, .int i, .int j => .ok (.val (.bool (decide (j < i))))
  | .ge, .int i, .int j => .ok (.val (.bool (decide (j ≤ i))))
  | .eq, x, y => if eqOk x y then .ok (.val (.bool (PyData.eqv x y))) else .stuck
  | .ne, x, y => if eqOk x y then .ok (.val (.bool (!PyData.eqv x y))) else .stuck
  | .isIn, x, .list ys => if eqOk x (.list ys) then .ok (.val (.bool (ys.any fun z => PyData.eqv z x))) else .stuck
  | .notIn, x, .list ys => if eqOk x (.list ys) then .ok (.val (.bool (!ys.any fun z => PyData.eqv z x))) else .stuck
  | .isN, x, .none => .ok (.val (.bool (nonD x)))
  | .notN, x, .none => .ok (.val (.bool (!nonD x)))
  | .isB, .bool x, .bool y => .ok (.val (.bool (decide (x = y))))
  | .notB, .bool x, .bool y => .ok (.val (.bool (!decide (x = y))))
  | _, _, _ => .stuck
def ixD : D → D → M B
  | .list xs, .int i => match L2.atI xs i with | some d => .ok (.val d) | none => .stuck
  | .tuple xs, .int i => match L2.atI xs i with | some d => .ok (.val d) | none => .stuck
  | _, _ => .stuck
def cutD (xs : List D) (lo hi : Option Int) : List D := (xs.drop (HT.sIx xs.length 0 lo)).take (HT.sIx xs.length xs.length hi - HT.sIx xs.length 0 lo)
def partD : List D → M (Option Int)
  | [] => .ok none
  | [.int i] => .ok (some i)
  | _ => .stuck
def slD : D → Option Int → Option Int → M B
  | .list xs, lo, hi => .ok (.own (cutD xs lo hi))
  | .tuple xs, lo, hi => .ok (.val (.tuple (cutD xs lo hi)))
  | _, _, _ => .stuck
def pickG {α : Type} (xs : List α) (lo hi st : Option Int) : List α := (sliceRange (sliceBounds lo hi st xs.length).1 (sliceBounds lo hi st xs.length).2.1 (sliceBounds lo hi st xs.length).2.2).filterMap (xs[·]?)
def sl3D : D → Option Int → Option Int → Option Int → M B
  | .list xs, lo, hi, st => if st ≠ some 0 ∧ lineOk (pickG xs lo hi st).length = true then .ok (.own (pickG xs lo hi st)) else .stuck
  | _, _, _, _ => .stuck
def inrD (neg : Bool) : D → List D → M B
  | .int i, [.int n] => .ok (.val (.bool (if neg then !decide (0 ≤ i ∧ i < n) else decide (0 ≤ i ∧ i < n))))
  | _, _ => .stuck
def safeD : M B → M B
  | .ex _ => .stuck
  | r => r
def intsD : List D → Option (List Int)
  | [] => some []
  | .int i :: r => (intsD r).map (i :: ·)
  | _ => none
def boolsD : List D → Option (List Bool)
  | [] => some []
  | .bool i :: r => (boolsD r).map (i :: ·)
  | _ => none
def minI : List Int → Int
  | [] => 0
  | [x] => x
  | x :: r => if minI r < x then minI r else x
def maxI : List Int → Int
  | [] => 0
  | [x] => x
  | x :: r => if x < maxI r then maxI r else x
def biD : Bi → List D → M B
  | .abs, [.int i] => .ok (.val (.int (if i < 0 then -i else i)))
  | .len, [.list xs] => .ok (.val (.int xs.length))
  | .len, [.tuple xs] => .ok (.val (.int xs.length))
  | .int, [.int i] => .ok (.val (.int i))
  | .int, [.bool b] => .ok (.val (.int (if b then 1 else 0)))
  | .list, [.list xs] => .ok (.own xs)
  | .list, [.tuple xs] => .ok (.own xs)
  | .tuple, [.list xs] => .ok (.val (.tuple xs))
  | .tuple, [.tuple xs] => .ok (.val (.tuple xs))
  | .sum, [.list xs] => match intsD xs with | some ns => .ok (.val (.int ns.sum)) | none => .stuck
  | .all, [.list xs] => match boolsD xs with | some bs => .ok (.val (.bool (bs.all id))) | none => .stuck
  | .min, [.list xs] => match intsD xs with | some (n :: ns) => .ok (.val (.int (minI (n :: ns)))) | _ => .stuck
  | .max, [.list xs] => match intsD xs with | some (n :: ns) => .ok (.val (.int (maxI (n :: ns)))) | _ => .stuck
  | .min, [.int i, .int j] => .ok (.val (.int (if j < i then j else i)))
  | .max, [.int i, .int j] => .ok (.val (.int (if j > i then j else i)))
  | _, _ => .stuck
def isiD : Ty → D → M B
  | .int, .int _ => .ok (.val (.bool true))
  | .int, .bool _ => .ok (.val (.bool true))
  | .bool, .bool _ => .ok (.val (.bool true))
  | .tuple, .tuple _ => .ok (.val (.bool true))
  | .list, .list _ => .ok (.val (.bool true))
  | .str, .str _ => .ok (.val (.bool true))
  | _, .dict _ => .stuck
  | _, _ => .ok (.val (.bool false))
def rngD (lo c : Int) : Nat → List D
  | 0 => []
  | n + 1 => .int lo :: rngD (lo + c) c n
def smallI (i : Int) : Bool := decide (-(2 ^ 62) ≤ i) && decide (i < 2 ^ 62)
def zipD : List D → List D → List D
  | x :: xs, y :: ys => .tuple [x, y] :: zipD xs ys
  | _, _ => []
def seqD : D → M (List D)
  | .list xs => .ok xs
  | .tuple xs => .ok xs
  | _ => .stuck
def itD : ItK → List D → M (List D)
  | .seq, [d] => seqD d
  | .rng, [.int n] => if smallI n then .ok (rngD 0 1 n.toNat) else .stuck
  | .rng, [.int i, .int j] => if smallI i && smallI j then .ok (rngD i 1 (j - i).toNat) else .stuck
  | .rng, [.int i, .int j, .int c] => if decide (0 < c) && decide (c < 2 ^ 29) && Builtin.Range.small i j c then .ok (rngD i c (Builtin.Range.rangeSize i j c).toNat) else .stuck
  | .zip, [.list xs, .list ys] => .ok (zipD xs ys)
  | .zip, [.tuple xs, .tuple ys] => .ok (zipD xs ys)
  | .rev, [d] => do let xs ← seqD d; .ok xs.reverse
  | _, _ => .stuck
mutual
def bindT : Tg → D → En → M En
  | .nm i, d, ρ => .ok (ρ.set i (some (.val d)))
  | .tp ts, .tuple ds, ρ => bindTs ts ds ρ
  | .tp ts, .list ds, ρ => bindTs ts ds ρ
  | .tp _, _, _ => .stuck
def bindTs : List Tg → List D → En → M En
  | [], [], ρ => .ok ρ
  | t :: ts, d :: ds, ρ => do let ρ1 ← bindT t d ρ; bindTs ts ds ρ1
  | _, _, _ => .stuck
end
def wipeN (ρ : En) : List Nat → En
  | [] => ρ
  | v :: vs => (wipeN ρ vs).set v none
abbrev Fs := Nat → List D → M B
def lookE : Option (Option B) → M B
  | some (some (.val d)) => .ok (.val d)
  | _ => .stuck
def lookB : Option (Option B) → M D
  | some (some b) => .ok b.d
  | _ => .stuck
def valM (r : M B) : M D := do let b ← r; .ok b.d
def bor (ρ : En) (e : E) (r : M B) : M D := match e with
  | .var i => lookB ρ[i]?
  | _ => valM r
def negD : D → M B
  | .int i => .ok (.val (.int (-i)))
  | _ => .stuck
def notD : D → M B
  | .bool b => .ok (.val (.bool (!b)))
  | _ => .stuck
def andD : D → M B → M B
  | .bool true, r => r
  | .bool false, _ => .ok (.val (.bool false))
  | _, _ => .stuck
def orD : D → M B → M B
  | .bool false, r => r
  | .bool true, _ => .ok (.val (.bool true))
  | _, _ => .stuck
def lcD (f : D → M (Option D)) : List D → M (List D)
  | [] => .ok []
  | d :: ds => match f d with
    | .ok (some x) => (match lcD f ds with | .ok r => .ok (x :: r) | _ => .stuck)
    | .ok none => lcD f ds
    | _ => .stuck
def turnD (cs : List D) (r : M B) : M (Option D) := match cs with
  | [] => do let b ← r; .ok (some b.d)
  | [.bool true] => do let b ← r; .ok (some b.d)
  | [.bool false] => .ok none
  | _ => .stuck
mutual
def evE (Φ : Fs) (ρ : En) : E → M B
  | .var i => lookE ρ[i]?
  | .con d => .ok (.val d)
  | .glob _ d => .ok (.val d)
  | .tup es => do let ds ← evL Φ ρ es; .ok (.val (.tuple ds))
  | .lst es => do let ds ← evL Φ ρ es; .ok (.own ds)
  | .rep es b => do let ds ← evL Φ ρ es; let y ← bor ρ b (evE Φ ρ b); repD ds y
  | .bop o a b => do let x ← bor ρ a (evE Φ ρ a); let y ← bor ρ b (evE Φ ρ b); bopD o x y
  | .neg a => do let x ← bor ρ a (evE Φ ρ a); negD x
  | .not a => do let x ← bor ρ a (evE Φ ρ a); notD x
  | .and a b => do let x ← bor ρ a (evE Φ ρ a); andD x (evE Φ ρ b)
  | .or a b => do let x ← bor ρ a (evE Φ ρ a); orD x (evE Φ ρ b)
  | .cmp o a b => do let x ← bor ρ a (evE Φ ρ a); let y ← bor ρ b (evE Φ ρ b); cmpD o x y
  | .ix a b => do let x ← bor ρ a (evE Φ ρ a); let y ← bor ρ b (evE Φ ρ b); ixD x y
  | .sl a lo hi => do
      let x ← bor ρ a (evE Φ ρ a); let l ← evL Φ ρ lo; let l' ← partD l
      let u ← evL Φ ρ hi; let u' ← partD u; slD x l' u'
  | .sl3 a lo hi st => do
      let x ← bor ρ a (evE Φ ρ a); let l ← evL Φ ρ lo; let l' ← partD l
      let u ← evL Φ ρ hi; let u' ← partD u; let k ← evL Φ ρ st; let k' ← partD k; sl3D x l' u' k'
  | .inr neg a bs => do let x ← bor ρ a (evE Φ ρ a); let ds ← evL Φ ρ bs; inrD neg x ds
  | .call0 k => safeD (Φ k [])
  | .bi f es => do let ds ← evBs Φ ρ es; biD f ds
  | .isi a t => do let x ← bor ρ a (evE Φ ρ a); isiD t x
  | .call k es => do let ds ← evL Φ ρ es; Φ k ds
  | .lc e t k es c own => do
      let ds ← evBs Φ ρ es
      let xs ← itD k ds
      if lineOk xs.length then do
       let r ← lcD (fun d => do
        let ρ1 ← bindT t d (wipeN ρ own)
        let cs ← evBs Φ ρ1 c
        turnD cs (evE Φ ρ1 e)) xs
       .ok (.own r)
      else .stuck
def evL (Φ : Fs) (ρ : En) : List E → M (List D)
  | [] => .ok []
  | e :: es => do let b ← evE Φ ρ e; let ds ← evL Φ ρ es; .ok (b.d :: ds)
def evBs (Φ : Fs) (ρ : En) : List E → M (List D)
  | [] => .ok []
  | e :: es => do let b ← bor ρ e (evE Φ ρ e); let ds ← evBs Φ ρ es; .ok (b :: ds)
end
inductive SuE where
  | is (b : Bool)
  | two
  | lst (bs : List Bool)
  | cat (j : Nat) (bs : List Bool)
  | con (b : Bool)
inductive S where
  | asg (t : Tg) (e : E)
  | set (i : Nat) (e : E)
  | put (i : Nat) (k e : E)
  | app (i : Nat) (e : E)
  | ite (c : E) (a b : List S)
  | for (t : Tg) (k : ItK) (es : List E) (body : List S)
  | whl (c : E) (body : List S)
  | ret (e : E)
  | cont
  | pass
  | frz (is : List Nat) (s : S)
  | raise (c : Nat)
  | tri (m : E) (d i : Nat) (sts : List (Nat × SuE))
  | bad
inductive Out where
  | nx (ρ : En) | rt (b : B) | ct (ρ : En)
def forD (f : D → En → M Out) : List D → En → M Out
  | [], ρ => .ok (.nx ρ)
  | d :: ds, ρ => match f d ρ with
    | .ok (.nx ρ1) => forD f ds ρ1
    | .ok (.ct ρ1) => forD f ds ρ1
    | o => o
def whlN (c : En → M D) (f : En → M Out) : Nat → En → M Out
  | 0, _ => .stuck
  | n + 1, ρ => match c ρ with
    | .ok (.bool true) => (match f ρ with
      | .ok (.nx ρ1) => whlN c f n ρ1
      | .ok (.ct ρ1) => whlN c f n ρ1
      | o => o)
    | .ok (.bool false) => .ok (.nx ρ)
    | .ex e => .ex e
    | _ => .stuck
open Classical in
noncomputable def whlD (c : En → M D) (f : En → M Out) (ρ : En) : M Out :=
  if h : ∃ n, whlN c f n ρ ≠ .stuck then whlN c f (choose h) ρ else .stuck
def frzE (ρ : En) : List Nat → En
  | [] => ρ
  | i :: is => match ρ[i]? with
    | some (some (.own ds)) => frzE (ρ.set i (some (.val (.list ds)))) is
    | _ => frzE ρ is
def setAt (xs : List D) (k : Int) (v : D) : M (List D) := match L2.ixN xs.length k with
  | some j => .ok (xs.set j v)
  | none => .stuck
def iteD (x : D) (a b : M Out) : M Out := match x with
  | .bool true => a
  | .bool false => b
  | _ => .stuck
def seqD' (r : M Out) (k : En → M Out) : M Out := match r with
  | .ok (.nx ρ) => k ρ
  | o => o
def putK (ρ : En) (i : Nat) (xs : List D) (d : D) (v : D) : M Out := match d with
  | .int n => do let ys ← setAt xs n v; .ok (.nx (ρ.set i (some (.own ys))))
  | _ => .stuck
def putD (ρ : En) (i : Nat) (o : Option (Option B)) (j : M D) (v : D) : M Out := match o with
  | some (some (.own xs)) => do let d ← j; putK ρ i xs d v
  | _ => .stuck
def appK (ρ : En) (i : Nat) (xs : List D) (v : D) : M Out := if lineOk xs.length then .ok (.nx (ρ.set i (some (.own (xs ++ [v]))))) else .stuck
def appD (ρ : En) (i : Nat) (o : Option (Option B)) (r : M B) : M Out := match o with
  | some (some (.own xs)) => do let b ← r; appK ρ i xs b.d
  | _ => .stuck
def retV : Option (Option B) → M Out
  | some (some b) => .ok (.rt b)
  | _ => .stuck
def retD (ρ : En) (e : E) (r : M B) : M Out := match e with
  | .var i => retV ρ[i]?
  | _ => do let b ← r; .ok (.rt b)
def suCat (bs : List Bool) : Option (Option B) → M D
  | some (some (.val (.list xs))) => if lineOk (xs.length + bs.length) then .ok (.list (xs ++ bs.map PyData.bool)) else .stuck
  | _ => .stuck
def suD (ρ : En) : SuE → M D
  | .is b => .ok (.bool b)
  | .con b => .ok (.bool b)
  | .two => .ok (.bool true)
  | .lst bs => .ok (.list (bs.map PyData.bool))
  | .cat j bs => suCat bs ρ[j]?
def runSu (i : Nat) : En → List (Nat × SuE) → M En
  | ρ, [] => .ok (ρ.set i none)
  | ρ, (j, m) :: r => do let d ← suD ρ m; runSu i (ρ.set j (some (.val d))) r
def triD (d i : Nat) (ρ : En) (sts : List (Nat × SuE)) : M B → M Out
  | .ok _ => .ok (.nx ρ)
  | .ex c => if c = d ∧ i < ρ.length then (do let ρ1 ← runSu i (ρ.set i none) sts; .ok (.nx ρ1)) else .stuck
  | .stuck => .stuck
mutual
noncomputable def exS (Φ : Fs) : S → En → M Out
  | .asg t e, ρ => do let b ← evE Φ ρ e; let ρ1 ← bindT t b.d ρ; .ok (.nx ρ1)
  | .set i e, ρ => do let b ← evE Φ ρ e; .ok (.nx (ρ.set i (some b)))
  | .put i k e, ρ => do let b ← evE Φ ρ e; putD ρ i ρ[i]? (bor ρ k (evE Φ ρ k)) b.d
  | .app i e, ρ => appD ρ i ρ[i]? (evE Φ ρ e)
  | .ite c a b, ρ => do let x ← bor ρ c (evE Φ ρ c); iteD x (exL Φ a ρ) (exL Φ b ρ)
  | .for t k es body, ρ => do
      let ds ← evL Φ ρ es; let xs ← itD k ds
      forD (fun d ρ1 => do let ρ2 ← bindT t d ρ1; exL Φ body ρ2) xs ρ
  | .whl c body, ρ => whlD (fun ρ1 => bor ρ1 c (evE Φ ρ1 c)) (fun ρ1 => exL Φ body ρ1) ρ
  | .ret e, ρ => retD ρ e (evE Φ ρ e)
  | .cont, ρ => .ok (.ct ρ)
  | .pass, ρ => .ok (.nx ρ)
  | .frz is s, ρ => exS Φ s (frzE ρ is)
  | .raise c, _ => .ex c
  | .tri m d i sts, ρ => triD d i ρ sts (evE Φ ρ m)
  | .bad, _ => .stuck
noncomputable def exL (Φ : Fs) : List S → En → M Out
  | [], ρ => .ok (.nx ρ)
  | s :: ss, ρ => seqD' (exS Φ s ρ) (fun ρ1 => exL Φ ss ρ1)
end
def phi : List (List D → M B) → Fs
  | [], _, _ => .stuck
  | f :: _, 0, ds => f ds
  | _ :: r, k + 1, ds => phi r k ds
def endD : M Out → M B
  | .ok (.rt b) => .ok b
  | .ok (.nx _) => .ok (.val .none)
  | .ok (.ct _) => .stuck
  | .ex c => .ex c
  | .stuck => .stuck
def entry (n m : Nat) (ds : List D) : En := ds.map (fun d => some (.val d)) ++ List.replicate (m - n) none
noncomputable def runF (Φ : Fs) (n m : Nat) (body : List S) (ds : List D) : M B :=
  if ds.length = n then endD (exL Φ body (entry n m ds)) else .stuck
end Tg
namespace Tg
open PySem PySem.Spec PyProof.Rows L2
mutual
inductive Dq (K : PySem.W.Frag) (F : Hp) : V → D → Prop
  | non : Dq K F .non .none
  | bl (b : Bool) : Dq K F (.bl b) (.bool b)
  | int (i : Int) : Dq K F (.int i) (.int i)
  | str (x : Str) : Dq K F (.str x) (.str x)
  | lst {a : Addr} {xs : List V} {ds : List D} : SqL K F a xs → DqAll K F xs ds → Dq K F (.ref a) (.list ds)
  | tup {a : Addr} {xs : List V} {ds : List D} : SqT K F a xs → DqAll K F xs ds → Dq K F (.ref a) (.tuple ds)
inductive DqAll (K : PySem.W.Frag) (F : Hp) : List V → List D → Prop
  | nil : DqAll K F [] []
  | cons {v : V} {vs : List V} {d : D} {ds : List D} : Dq K F v d → DqAll K F vs ds → DqAll K F (v :: vs) (d :: ds)
end
section
variable {K : PySem.W.Frag} {F F' H H' : Hp}
theorem rd_mono {a : Addr} {u : HO} (s : Same F F') (h : Rd F a u) : Rd F' a u := by
  rcases h with h | ⟨o, h⟩
  · exact .inl (s _ _ h)
  · exact .inr ⟨o, s _ _ h⟩
theorem sql_mono {a : Addr} {xs : List V} (s : Same F F') (h : SqL K F a xs) : SqL K F' a xs := by
  rcases h with h | h
  · exact .inl (rd_mono s h)
  · exact .inr h
theorem sqt_mono {a : Addr} {xs : List V} (s : Same F F') (h : SqT K F a xs) : SqT K F' a xs := by
  rcases h with h | h
  · exact .inl (rd_mono s h)
  · exact .inr h
mutual
theorem Dq.mono (s : Same F F') : ∀ (d : D) (v : V), Dq K F v d → Dq K F' v d
  | .none, _, h => by cases h; exact .non
  | .bool b, _, h => by cases h; exact .bl b
  | .int i, _, h => by cases h; exact .int i
  | .str x, _, h => by cases h; exact .str x
  | .list ds, _, h => by
    cases h with
    | lst h1 h2 => exact .lst (sql_mono s h1) (DqAll.mono s ds _ h2)
  | .tuple ds, _, h => by
    cases h with
    | tup h1 h2 => exact .tup (sqt_mono s h1) (DqAll.mono s ds _ h2)
  | .dict _, _, h => by cases h
theorem DqAll.mono (s : Same F F') : ∀ (ds : List D) (vs : List V), DqAll K F vs ds → DqAll K F' vs ds
  | [], _, h => by cases h; exact .nil
  | d :: ds, _, h => by
    cases h with
    | cons h1 h2 => exact .cons (Dq.mono s d _ h1) (DqAll.mono s ds _ h2)
end
mutual
theorem Dq.dp : ∀ (d : D) (v : V), Dq K F v d → Dp K F v d
  | .none, _, h => by cases h; exact .non
  | .bool b, _, h => by cases h; exact .bl b
  | .int i, _, h => by cases h; exact .int i
  | .str x, _, h => by cases h; exact .str x
  | .list ds, _, h => by
    cases h with
    | lst h1 h2 => exact .lst h1 (DqAll.dp ds _ h2)
  | .tuple ds, _, h => by
    cases h with
    | tup h1 h2 => exact .tup h1 (DqAll.dp ds _ h2)
  | .dict _, _, h => by cases h
theorem DqAll.dp : ∀ (ds : List D) (vs : List V), DqAll K F vs ds → DpAll K F vs ds
  | [], _, h => by cases h; exact .nil
  | d :: ds, _, h => by
    cases h with
    | cons h1 h2 => exact .cons (Dq.dp d _ h1) (DqAll.dp ds _ h2)
end
theorem DqAll.length : ∀ {ds : List D} {vs : List V}, DqAll K F vs ds → vs.length = ds.length
  | [], _, h => by cases h; rfl
  | d :: ds, _, h => by
    cases h with
    | cons h1 h2 => rw [List.length_cons, List.length_cons, DqAll.length h2]
theorem DqAll.get : ∀ {ds : List D} {vs : List V} {i : Nat} {d : D}, DqAll K F vs ds → ds[i]? = some d → ∃ v, vs[i]? = some v ∧ Dq K F v d
  | [], _, _, _, _, e => by simp at e
  | d :: ds, _, 0, _, h, e => by
    cases h with
    | cons h1 h2 => simp at e; subst e; exact ⟨_, rfl, h1⟩
  | d :: ds, _, i + 1, x, h, e => by
    cases h with
    | cons h1 h2 =>
      obtain ⟨v, q1, q2⟩ := DqAll.get (i := i) (d := x) h2 (by simpa using e)
      exact ⟨v, by simpa using q1, q2⟩
theorem DqAll.app : ∀ {ds es : List D} {vs us : List V}, DqAll K F vs ds → DqAll K F us es → DqAll K F (vs ++ us) (ds ++ es)
  | [], _, _, _, h, g => by cases h; exact g
  | d :: ds, _, _, _, h, g => by
    cases h with
    | cons h1 h2 => exact .cons h1 (DqAll.app h2 g)
theorem DqAll.take : ∀ {ds : List D} {vs : List V} (n : Nat), DqAll K F vs ds → DqAll K F (vs.take n) (ds.take n)
  | _, _, 0, _ => by rw [List.take_zero, List.take_zero]; exact .nil
  | [], _, n + 1, h => by cases h; exact .nil
  | d :: ds, _, n + 1, h => by
    cases h with
    | cons h1 h2 => exact .cons h1 (DqAll.take n h2)
theorem DqAll.drop : ∀ {ds : List D} {vs : List V} (n : Nat), DqAll K F vs ds → DqAll K F (vs.drop n) (ds.drop n)
  | _, _, 0, h => h
  | [], _, n + 1, h => by cases h; exact .nil
  | d :: ds, _, n + 1, h => by
    cases h with
    | cons h1 h2 => exact DqAll.drop n h2
theorem DqAll.rep {ds : List D} {vs : List V} (h : DqAll K F vs ds) : ∀ k : Nat, DqAll K F (List.replicate k vs).flatten (List.replicate k ds).flatten
  | 0 => .nil
  | k + 1 => by
    rw [List.replicate_succ, List.replicate_succ, List.flatten_cons, List.flatten_cons]
    exact h.app (h.rep k)
theorem DqAll.set : ∀ {ds : List D} {vs : List V} (i : Nat) {v : V} {d : D}, DqAll K F vs ds → Dq K F v d → DqAll K F (vs.set i v) (ds.set i d)
  | [], _, _, _, _, h, _ => by cases h; exact .nil
  | d :: ds, _, 0, _, _, h, g => by
    cases h with
    | cons h1 h2 => exact .cons g h2
  | d :: ds, _, i + 1, _, _, h, g => by
    cases h with
    | cons h1 h2 => exact .cons h1 (DqAll.set i h2 g)
theorem DqAll.ints : ∀ {ds : List D} {vs : List V} {ns : List Int}, DqAll K F vs ds → intsD ds = some ns → vs = ns.map V.int
  | [], _, _, h, e => by cases h; simp [intsD] at e; subst e; rfl
  | d :: ds, _, ns, h, e => by
    cases h with
    | cons h1 h2 =>
      cases h1 <;> simp only [intsD] at e <;> try (cases e)
      rename_i i
      cases q : intsD ds with
      | none => rw [q] at e; cases e
      | some m =>
        rw [q] at e
        simp only [Option.map_some, Option.some.injEq] at e
        subst e
        rw [List.map_cons, DqAll.ints h2 q]
theorem DqAll.bools : ∀ {ds : List D} {vs : List V} {ns : List Bool}, DqAll K F vs ds → boolsD ds = some ns → vs = ns.map V.bl
  | [], _, _, h, e => by cases h; simp [boolsD] at e; subst e; rfl
  | d :: ds, _, ns, h, e => by
    cases h with
    | cons h1 h2 =>
      cases h1 <;> simp only [boolsD] at e <;> try (cases e)
      rename_i i
      cases q : boolsD ds with
      | none => rw [q] at e; cases e
      | some m =>
        rw [q] at e
        simp only [Option.map_some, Option.some.injEq] at e
        subst e
        rw [List.map_cons, DqAll.bools h2 q]
theorem dq_ints : ∀ (ns : List Int), DqAll K F (ns.map V.int) (ns.map PyData.int)
  | [] => .nil
  | n :: ns => .cons (.int n) (dq_ints ns)
end
structure Gr (H F H' F' : Hp) : Prop where
  h : Same H H'
  f : Same F F'
  s : Same F' H'
  n : ∀ a, H a ≠ none → F a = none → F' a = none
theorem Gr.refl {H F : Hp} (s : Same F H) : Gr H F H F := ⟨.refl _, .refl _, s, fun _ _ h => h⟩
theorem Gr.trans {H F H1 F1 H2 F2 : Hp} (a : Gr H F H1 F1) (b : Gr H1 F1 H2 F2) : Gr H F H2 F2 :=
  ⟨a.h.trans b.h, a.f.trans b.f, b.s, fun x h1 h2 => b.n x (fun z => h1 (a.h.free z)) (a.n x h1 h2)⟩
theorem Gr.lay {H F : Hp} (s : Same F H) {p : Addr} {o : HO} (n : H p = none) : Gr H F (upd H p o) (upd F p o) := by
  have np : F p = none := s.free n
  refine ⟨same_upd' n, same_upd' np, fun b x e => ?_, fun a h1 h2 => ?_⟩
  · by_cases hb : b = p
    · subst hb; rw [upd_same] at e ⊢; exact e
    · rw [upd_ne hb] at e ⊢; exact s _ _ e
  · rw [upd_ne (fun z => h1 (by rw [z]; exact n))]; exact h2
where
  same_upd' {H : Hp} {p : Addr} {o : HO} (h : H p = none) : Same H (upd H p o) := fun b x e => by
    rw [upd_ne (ne_of_none e h)]; exact e
theorem same_new {H : Hp} {p : Addr} {o : HO} (h : H p = none) : Same H (upd H p o) := Gr.lay.same_upd' h
theorem Gr.mine {H F : Hp} (s : Same F H) {p : Addr} {o : HO} (n : H p = none) : Gr H F (upd H p o) F :=
  ⟨same_new n, .refl _, s.trans (same_new n), fun _ _ h => h⟩
theorem Gr.freeze {H F H' F' : Hp} (g : Gr H F H' F') {l : Addr} {o : HO} (e : H' l = some o) (n : H l = none) : Gr H F H' (upd F' l o) := by
  refine ⟨g.h, fun b x q => ?_, fun b x q => ?_, fun a h1 h2 => ?_⟩
  · by_cases hb : b = l
    · subst hb
      have q2 := g.s _ _ (g.f _ _ q)
      rw [e] at q2; rw [upd_same]; exact q2
    · rw [upd_ne hb]; exact g.f _ _ q
  · by_cases hb : b = l
    · subst hb; rw [upd_same] at q; rw [e]; exact q
    · rw [upd_ne hb] at q; exact g.s _ _ q
  · have ne : a ≠ l := fun z => h1 (by rw [z]; exact n)
    rw [upd_ne ne]; exact g.n a h1 h2
def RepB (K : PySem.W.Frag) (H F : Hp) : B → V → Prop
  | .val d, v => Dq K F v d
  | .own ds, v => ∃ l vs, v = .ref l ∧ H l = some (.lst vs) ∧ F l = none ∧ DqAll K F vs ds
def NewB (H : Hp) : B → V → Prop
  | .val _, _ => True
  | .own _, v => ∃ l, v = .ref l ∧ H l = none
def RB (K : PySem.W.Frag) (H F : Hp) (d : D) (v : V) : Prop := Dq K F v d ∨ ∃ l vs ds, v = .ref l ∧ d = .list ds ∧ H l = some (.lst vs) ∧ DqAll K F vs ds
section
variable {K : PySem.W.Frag} {F F' H H' F0 H0 : Hp} {b : B} {v : V} {d : D}
theorem RepB.rb (h : RepB K H F b v) : RB K H F b.d v := by
  cases b with
  | val d => exact .inl h
  | own ds => obtain ⟨l, vs, e, h1, _, h3⟩ := h; exact .inr ⟨l, vs, ds, e, rfl, h1, h3⟩
theorem RB.mono (g : Gr H F H' F') (h : RB K H F d v) : RB K H' F' d v := by
  rcases h with h | ⟨l, vs, ds, e, e2, h1, h3⟩
  · exact .inl (Dq.mono g.f _ _ h)
  · exact .inr ⟨l, vs, ds, e, e2, g.h _ _ h1, DqAll.mono g.f _ _ h3⟩
theorem RB.dp (s : Same F H) (h : RB K H F d v) : Dp K H v d := by
  rcases h with h | ⟨l, vs, ds, rfl, rfl, h1, h3⟩
  · exact Dq.dp _ _ (Dq.mono s _ _ h)
  · exact .lst (.inl (.inl h1)) (DqAll.dp _ _ (DqAll.mono s _ _ h3))
theorem RepB.freeze (g : Gr H0 F0 H F) (h : RepB K H F b v) (n : NewB H0 b v) : ∃ F', Gr H0 F0 H F' ∧ Dq K F' v b.d := by
  cases b with
  | val d => exact ⟨F, g, h⟩
  | own ds =>
    obtain ⟨l, vs, rfl, h1, h2, h3⟩ := h
    obtain ⟨l', e, n⟩ := n
    cases e
    refine ⟨upd F l (.lst vs), g.freeze h1 n, .lst (.of upd_same) (DqAll.mono (same_new h2) _ _ h3)⟩
theorem RB.list {ds : List D} (s : Same F H) (h : RB K H F (.list ds) v) : ∃ l vs, v = .ref l ∧ SqL K H l vs ∧ DqAll K F vs ds := by
  rcases h with h | ⟨l, vs, ds', rfl, e, h1, h3⟩
  · cases h with
    | lst h1 h2 => exact ⟨_, _, rfl, sql_mono s h1, h2⟩
  · cases e; exact ⟨_, _, rfl, .of h1, h3⟩
theorem RB.tuple {ds : List D} (s : Same F H) (h : RB K H F (.tuple ds) v) : ∃ l vs, v = .ref l ∧ SqT K F l vs ∧ DqAll K F vs ds := by
  rcases h with h | ⟨l, vs, ds', rfl, e, h1, h3⟩
  · cases h with
    | tup h1 h2 => exact ⟨_, _, rfl, h1, h2⟩
  · cases e
theorem RB.int {i : Int} (h : RB K H F (.int i) v) : v = .int i := by
  rcases h with h | ⟨l, vs, ds', rfl, e, h1, h3⟩
  · cases h; rfl
  · cases e
theorem RB.bool {i : Bool} (h : RB K H F (.bool i) v) : v = .bl i := by
  rcases h with h | ⟨l, vs, ds', rfl, e, h1, h3⟩
  · cases h; rfl
  · cases e
theorem RB.none (h : RB K H F .none v) : v = .non := by
  rcases h with h | ⟨l, vs, ds', rfl, e, h1, h3⟩
  · cases h; rfl
  · cases e
end
structure StR (K : PySem.W.Frag) (H0 F0 : Hp) (σ : L2.St) (H F : Hp) (ρ : En) : Prop where
  gr : Gr H0 F0 H F
  len : σ.length = ρ.length
  val : ∀ (i : Nat) (d : D), ρ[i]? = some (some (.val d)) → ∃ v, σ[i]? = some (some v) ∧ Dq K F v d
  own : ∀ (i : Nat) (ds : List D), ρ[i]? = some (some (.own ds)) → ∃ l vs, σ[i]? = some (some (.ref l)) ∧ H l = some (.lst vs) ∧ F l = none ∧ H0 l = none ∧ DqAll K F vs ds
  sep : ∀ (i j : Nat) (ds ds' : List D) (l : Addr), i ≠ j → ρ[i]? = some (some (.own ds)) → ρ[j]? = some (some (.own ds')) → σ[i]? = some (some (.ref l)) → σ[j]? = some (some (.ref l)) → False
section
variable {K : PySem.W.Frag} {F F' H H' F0 H0 : Hp} {σ : L2.St} {ρ : En}
theorem StR.grow (R : StR K H0 F0 σ H F ρ) (g : Gr H F H' F') : StR K H0 F0 σ H' F' ρ where
  gr := R.gr.trans g
  len := R.len
  val := fun i d e => let ⟨v, h1, h2⟩ := R.val i d e; ⟨v, h1, Dq.mono g.f _ _ h2⟩
  own := fun i ds e => by
    obtain ⟨l, vs, h1, h2, h3, h4, h5⟩ := R.own i ds e
    exact ⟨l, vs, h1, g.h _ _ h2, g.n l (by rw [h2]; exact fun z => nomatch z) h3, h4, DqAll.mono g.f _ _ h5⟩
  sep := R.sep
theorem StR.s (R : StR K H0 F0 σ H F ρ) : Same F H := R.gr.s
theorem StR.setV (R : StR K H0 F0 σ H F ρ) (i : Nat) {v : V} {d : D} (h : Dq K F v d) : StR K H0 F0 (σ.set i (some v)) H F (ρ.set i (some (.val d))) where
  gr := R.gr
  len := by rw [List.length_set, List.length_set, R.len]
  val := fun j d' e => by
    by_cases hj : i = j
    · subst hj
      have hl : i < ρ.length := by
        have := (List.getElem?_eq_some_iff.mp e).1
        rwa [List.length_set] at this
      rw [List.getElem?_set_self hl] at e
      cases e
      exact ⟨v, List.getElem?_set_self (by rw [R.len]; exact hl), h⟩
    · rw [List.getElem?_set_ne hj] at e ⊢
      exact R.val j d' e
  own := fun j ds e => by
    by_cases hj : i = j
    · subst hj
      have hl : i < ρ.length := by
        have := (List.getElem?_eq_some_iff.mp e).1
        rwa [List.length_set] at this
      rw [List.getElem?_set_self hl] at e
      cases e
    · rw [List.getElem?_set_ne hj] at e ⊢
      exact R.own j ds e
  sep := fun j k ds ds' l ne e1 e2 e3 e4 => by
    have hj : i ≠ j := fun z => by
      subst z
      have hl : i < ρ.length := by
        have := (List.getElem?_eq_some_iff.mp e1).1
        rwa [List.length_set] at this
      rw [List.getElem?_set_self hl] at e1; cases e1
    have hk : i ≠ k := fun z => by
      subst z
      have hl : i < ρ.length := by
        have := (List.getElem?_eq_some_iff.mp e2).1
        rwa [List.length_set] at this
      rw [List.getElem?_set_self hl] at e2; cases e2
    rw [List.getElem?_set_ne hj] at e1 e3
    rw [List.getElem?_set_ne hk] at e2 e4
    exact R.sep j k ds ds' l ne e1 e2 e3 e4
theorem StR.wipe1 (R : StR K H0 F0 σ H F ρ) (i : Nat) : StR K H0 F0 (σ.set i none) H F (ρ.set i none) where
  gr := R.gr
  len := by rw [List.length_set, List.length_set, R.len]
  val := fun j d' e => by
    by_cases hj : i = j
    · subst hj
      have hl : i < ρ.length := by
        have := (List.getElem?_eq_some_iff.mp e).1
        rwa [List.length_set] at this
      rw [List.getElem?_set_self hl] at e
      cases e
    · rw [List.getElem?_set_ne hj] at e ⊢
      exact R.val j d' e
  own := fun j ds e => by
    by_cases hj : i = j
    · subst hj
      have hl : i < ρ.length := by
        have := (List.getElem?_eq_some_iff.mp e).1
        rwa [List.length_set] at this
      rw [List.getElem?_set_self hl] at e
      cases e
    · rw [List.getElem?_set_ne hj] at e ⊢
      exact R.own j ds e
  sep := fun j k ds ds' l ne e1 e2 e3 e4 => by
    have hj : i ≠ j := fun z => by
      subst z
      have hl : i < ρ.length := by
        have := (List.getElem?_eq_some_iff.mp e1).1
        rwa [List.length_set] at this
      rw [List.getElem?_set_self hl] at e1; cases e1
    have hk : i ≠ k := fun z => by
      subst z
      have hl : i < ρ.length := by
        have := (List.getElem?_eq_some_iff.mp e2).1
        rwa [List.length_set] at this
      rw [List.getElem?_set_self hl] at e2; cases e2
    rw [List.getElem?_set_ne hj] at e1 e3
    rw [List.getElem?_set_ne hk] at e2 e4
    exact R.sep j k ds ds' l ne e1 e2 e3 e4
theorem StR.wipe (R : StR K H0 F0 σ H F ρ) : ∀ vs : List Nat, StR K H0 F0 (L2.wipe σ vs) H F (wipeN ρ vs)
  | [] => R
  | v :: vs => (R.wipe vs).wipe1 v
end
abbrev Wx := Nat → L2.St → Hp → Prop
section
variable (K : PySem.W.Frag) (w : Wx) (σ : L2.St) (H F : Hp)
def AfE (r : M B) (Q : VK) : Prop := match r with
  | .ok b => ∀ v H' F', Gr H F H' F' → RepB K H' F' b v → NewB H b v → Q v H'
  | .ex c => ∀ H' F', Gr H F H' F' → w c σ H'
  | .stuck => False
def AfB (r : M D) (Q : VK) : Prop := match r with
  | .ok d => ∀ v H' F', Gr H F H' F' → RB K H' F' d v → Q v H'
  | .ex c => ∀ H' F', Gr H F H' F' → w c σ H'
  | .stuck => False
def AfL (r : M (List D)) (Q : List V → Hp → Prop) : Prop := match r with
  | .ok ds => ∀ vs H' F', Gr H F H' F' → DqAll K F' vs ds → Q vs H'
  | .ex c => ∀ H' F', Gr H F H' F' → w c σ H'
  | .stuck => False
inductive RBs (K : PySem.W.Frag) (H F : Hp) : List V → List D → Prop
  | nil : RBs K H F [] []
  | cons {v : V} {vs : List V} {d : D} {ds : List D} : RB K H F d v → RBs K H F vs ds → RBs K H F (v :: vs) (d :: ds)
def AfBs (r : M (List D)) (Q : List V → Hp → Prop) : Prop := match r with
  | .ok ds => ∀ vs H' F', Gr H F H' F' → RBs K H' F' vs ds → Q vs H'
  | .ex c => ∀ H' F', Gr H F H' F' → w c σ H'
  | .stuck => False
end
def tE (K : PySem.W.Frag) (w : Wx) (Φ : Fs) (m : E) : TE := fun σ H Q => ∃ H0 F0 F ρ, StR K H0 F0 σ H F ρ ∧ AfE K w σ H F (evE Φ ρ m) Q
def tB (K : PySem.W.Frag) (w : Wx) (Φ : Fs) (m : E) : TE := fun σ H Q => ∃ H0 F0 F ρ, StR K H0 F0 σ H F ρ ∧ AfB K w σ H F (bor ρ m (evE Φ ρ m)) Q
def tL (K : PySem.W.Frag) (w : Wx) (Φ : Fs) (ms : List E) : TA := fun σ H Q => ∃ H0 F0 F ρ, StR K H0 F0 σ H F ρ ∧ AfL K w σ H F (evL Φ ρ ms) Q
def tBs (K : PySem.W.Frag) (w : Wx) (Φ : Fs) (ms : List E) : TA := fun σ H Q => ∃ H0 F0 F ρ, StR K H0 F0 σ H F ρ ∧ AfBs K w σ H F (evBs Φ ρ ms) Q
theorem pe_weak {X : Cx} {e : Expr} {t t' : TE} (h : PE X e t) (hw : ∀ σ H Q, t' σ H Q → t σ H Q) : PE X e t' := ⟨fun pins s σ H Q I q => h.run pins s σ H Q I (hw σ H Q q)⟩
theorem pa_weak {X : Cx} {e : List Expr} {t t' : TA} (h : PA X e t) (hw : ∀ σ H Q, t' σ H Q → t σ H Q) : PA X e t' := ⟨fun pos pins s σ H Q I q => h.run pos pins s σ H Q I (hw σ H Q q)⟩
def AfV (K : PySem.W.Frag) (H F : Hp) (r : M B) (Q : VK) : Prop := match r with
  | .ok b => ∀ v H' F', Gr H F H' F' → RepB K H' F' b v → NewB H b v → Q v H'
  | _ => False
def r2 (K : PySem.W.Frag) (f : D → D → M B) : R2 := fun x y H Q => ∃ F dx dy, Same F H ∧ RB K H F dx x ∧ RB K H F dy y ∧ AfV K H F (f dx dy) Q
def r1 (K : PySem.W.Frag) (f : D → M B) : V → Hp → VK → Prop := fun x H Q => ∃ F dx, Same F H ∧ RB K H F dx x ∧ AfV K H F (f dx) Q
def rn (K : PySem.W.Frag) (f : List D → M B) : List V → Hp → VK → Prop := fun xs H Q => ∃ F ds, Same F H ∧ RBs K H F xs ds ∧ AfV K H F (f ds) Q
theorem AfV.flat {K : PySem.W.Frag} {H F : Hp} {Q : VK} (s : Same F H) {d : D} {v : V} (h : AfV K H F (.ok (.val d)) Q) (r : Dq K F v d) : Q v H := h v H F (.refl s) r trivial
end Tg
namespace Tg
open PySem PySem.Spec PyProof.Rows L2
section
variable {K : PySem.W.Frag} {F F' H H' F0 H0 : Hp} {Q : VK} {v : V} {d : D} {ds : List D} {vs : List V}
theorem AfV.new (h : AfV K H F (.ok (.own ds)) Q) (s : Same F H) (r : DqAll K F vs ds) : ∀ p, H p = none → Q (.ref p) (upd H p (.lst vs)) := fun p hp =>
  h (.ref p) _ F (.mine s hp) ⟨p, vs, rfl, upd_same, s.free hp, r⟩ ⟨p, rfl, hp⟩
theorem AfV.newT (h : AfV K H F (.ok (.val (.tuple ds))) Q) (s : Same F H) (r : DqAll K F vs ds) : ∀ p, H p = none → Q (.ref p) (upd H p (.tup vs)) := fun p hp =>
  h (.ref p) _ _ (.lay s hp) (.tup (.of upd_same) (DqAll.mono (same_new (s.free hp)) _ _ r)) trivial
theorem line_ok {n : Nat} (h : lineOk n = true) : n < sizeLine := by
  have h1 := of_decide_eq_true h
  rw [sizeLine_eq]; omega
theorem at_all {i : Int} {d : D} (r : DqAll K F vs ds) (h : atI ds i = some d) : ∃ v, atI vs i = some v ∧ Dq K F v d := by
  unfold atI at h ⊢
  rw [r.length]
  cases q : ixN ds.length i with
  | none => rw [q] at h; cases h
  | some j =>
    rw [q] at h
    exact r.get (i := j) h
theorem cut_all (r : DqAll K F vs ds) (lo hi : Option Int) : DqAll K F (cutV vs lo hi) (cutD ds lo hi) := by
  unfold cutV cutD
  rw [r.length]
  exact (r.drop _).take _
end
section
variable {X : Cx}
theorem op_fdivG : OpR X (binaryOp .FloorDiv) (rI (fun i j => divOk i j = true) fun i j => .int (i.fdiv j)) := opI fun i j _ _ _ _ _ hc q => by
  unfold divOk at hc
  rw [Bool.and_eq_true] at hc
  exact floordiv_int (by simpa using hc.1) q (.inl (by simpa using hc.2))
theorem cat_sq {pins : List (Addr × Obj)} {s : Shared} {σ : L2.St} {H : Hp} {l b : Addr} {xs zs : List V} {Q : VK} (I : Inv X pins σ H s) (hH : SqL X.K H l xs) (hB : SqL X.K H b zs) (hz : xs.length + zs.length ≤ sizeLine)
    (q : ∀ p, H p = none → Q (.ref p) (upd H p (.lst (xs ++ zs)))) : wpAny (model X.prog X.w) X.A (binaryOp .Add (.ref l) (.ref b)) (EP X pins σ Q) X.xe s := by
  obtain ⟨its, r, ⟨⟨cls, dd, data, sl⟩, n, e, hc, hd, hs⟩, z1⟩ := I.list hH
  obtain ⟨its2, r2, ⟨⟨cls2, dd2, data2, sl2⟩, n2, e2, hc2, hd2, hs2⟩, z2⟩ := I.list hB
  simp only at hc hd hs hc2 hd2 hs2
  subst hc hd hs hc2 hd2 hs2
  have l1 := r.length
  have l2 := r2.length
  refine PySem.concat_meets ⟨_, e, rfl⟩ ⟨_, e2, rfl⟩ PySem.noFill_list_add PySem.seq_list_add PySem.F.slot_list_add PySem.F.entry_list_add (PySem.F.args_list_add_2 _ _)
    (list_addW l b its.toArray its2.toArray n n2 none none sl sl2 (by rw [List.size_toArray, List.size_toArray]; omega)) ⟨e, e2, ?_⟩
  rw [show its.toArray ++ its2.toArray = (its ++ its2).toArray by simp]
  exact ⟨.ref _, _, I.lnew (t' := s.toks) (r.append r2) (by rw [List.length_append]; exact hz), rfl, q _ I.fresh⟩
theorem tmul_few (once : Bool) (l : Addr) (its : Array Value) (n : Nat) (dd : Option Addr) (sl : Array (Option Value)) (u : Tok) (some_ : once = false → its.isEmpty = false) :
    Meets (Builtin.«tuple.__mul__» ⟨[.ref l, .int once.toNat u], []⟩) (fun _ R s => s.heap.get? l = some { cls := .type "tuple", dict := dd, data := .seq its n, slots := sl } ∧
      (once = true → R (.ok (.ret (Value.ref l))) s) ∧ (once = false → R (.ok (.ret (Value.ref s.heap.objs.size))) { s with heap := s.heap.push { cls := .type "tuple", data := .seq #[] } })) := by
  have num := AutoSeq1.idx_int
  cases once
  · have full := some_ rfl
    exact .of_wp fun _ _ _ _ st ⟨at_l, _, new⟩ => by
      cases st
      wp_walk using wpAny_loadPart' at_l
      exact ⟨_, rfl, new rfl⟩
  · exact .of_wp fun _ _ _ _ st ⟨at_l, same, _⟩ => by
      cases st
      wp_walk using wpAny_loadPart' at_l
      exact ⟨_, rfl, same rfl⟩
theorem op_mulT : OpR X (binaryOp .Mult) (fun x y H Q => ∃ l k xs, x = .ref l ∧ y = .int k ∧ SqT X.K H l xs ∧ ((k = 1 ∧ Q (.ref l) H) ∨ (k = 0 ∧ xs ≠ [] ∧ ∀ p, H p = none → Q (.ref p) (upd H p (.tup []))) ∨
    (xs ≠ [] ∧ 2 ≤ k ∧ k ≤ 1000 ∧ xs.length ≤ 1000 ∧ ∀ p, H p = none → Q (.ref p) (upd H p (.tup (List.replicate k.toNat xs).flatten))))) := by
  rintro pins s σ H x y v u Q I rx ry ⟨l, k, xs, rfl, rfl, sq, h⟩
  rcases h with h | h | ⟨h1, h2, h3, h4, q⟩
  rotate_left 2
  · exact op_repT pins s σ H _ _ v u Q I rx ry ⟨l, k, xs, rfl, rfl, sq, h1, h2, h3, h4, q⟩
  all_goals
    obtain ⟨its, rv, ⟨⟨cls, dd, data, sl⟩, at_l, cl, n, dt⟩, short⟩ := I.tuple sq
    obtain rfl : cls = _ := cl
    obtain rfl : data = _ := dt
    obtain rfl : v = Value.ref l := rx
    obtain ⟨t, rfl⟩ := ry
    have ty : s.TypeIs (.ref l) "tuple" := ⟨_, at_l, rfl⟩
    have turn : ∀ (once : Bool), k = once.toNat → (once = false → its.toArray.isEmpty = false) → (once = true → EP X pins σ Q (.ref l) s) → (once = false → EP X pins σ Q (.ref s.heap.objs.size) { s with heap := s.heap.push { cls := .type "tuple", data := .seq #[] } }) →
        wpAny (model X.prog X.w) X.A (binaryOp .Mult (.ref l) (.int k t)) (EP X pins σ Q) X.xe s := fun once ek full same new => by
      subst ek
      exact wpAny_binaryOp_repeat_ref (T := "tuple") (U := "int") (by decide) ty (fun _ => typeIs_int _ _ _) noFill_tuple_mul F.fills_int_mul F.slot_int_rmul repeat_tuple F.slot_int_index.lookup
        (call_meets F.slot_int_rmul (typeIs_int _ _ _) F.entry_int_rmul (F.args_int_rmul_2 _ _) (int_rmul_tuple _ t l its.toArray n dd sl) ⟨at_l, rfl, ty,
          call_meets F.slot_tuple_mul ty F.entry_tuple_mul (F.args_tuple_mul_2 _ _) (tmul_few once l its.toArray n dd sl t full) ⟨at_l, same, new⟩⟩)
  · exact turn true h.1 nofun (fun _ => ⟨.ref l, H, I, rfl, h.2⟩) nofun
  · refine turn false h.1 (fun _ => ?_) nofun (fun _ => ⟨.ref s.heap.objs.size, upd H s.heap.objs.size (.tup []), ?_, rfl, h.2.2 _ I.fresh⟩)
    · have same := rv.length
      match its, xs, same with
      | [], [], _ => exact absurd rfl h.2.1
      | _ :: _, _, _ => rfl
    · exact I.laid (t' := s.toks) (fun b o e => Heap.get?_push_of_some _ e) (Nat.le_refl _) ⟨Nat.zero_le _, [], .nil, IsTup.new _ _⟩
theorem cr_range1 : CallR X (.type "range") (fun vs H Q => ∃ j, vs = [V.int j] ∧ ∀ p, H p = none → Q (.ref p) (upd H p (.rng 0 j))) := by
  intro pins s σ H xs us Q I r h
  obtain ⟨j, rfl, q⟩ := h
  cases r with
  | cons r1 r2 =>
    cases r2
    obtain ⟨t, rfl⟩ := r1
    refine callType_new PySem.F.called_range (by decide) (PySem.F.typeCall_range_1 _) (PySem.F.newCall_range_1 _) (fun obj => PySem.F.initArgs_range_1 _ _) PySem.F.entry_range_new (PySem.AutoRange.range___new___type_int_0 j t ?_) ?_
    · rfl
    · refine ⟨?_, ?_⟩
      · exact ⟨_, Heap.get?_push_size _ rfl, rfl⟩
      · refine ⟨.ref s.heap.objs.size, upd H s.heap.objs.size (.rng 0 j), ?_, rfl, q _ I.fresh⟩
        refine I.turnedNew (ch := []) (fun b o _ e => Heap.get?_push_of_some _ e) (fun b hb => by cases hb) (Nat.le_refl _) ?_
        · unfold ObjOk
          exact ⟨_, _, _, Heap.get?_push_size _ rfl⟩
theorem op_notIn_rng : OpR X (compareOp .NotIn) (fun x y H Q => ∃ i a lo hi, x = V.int i ∧ y = V.ref a ∧ H a = some (.rng lo hi) ∧ Q (.bl (!decide (lo ≤ i ∧ i < hi))) H) := by
  intro pins s σ H x y v u Q I rx ry h
  obtain ⟨i, a, lo, hi, rfl, rfl, hr, q⟩ := h
  have key := op_in_rng pins s σ H _ _ v u (fun z H1 => ∃ b, z = .bl b ∧ Q (.bl (!b)) H1) I rx ry ⟨i, a, lo, hi, rfl, rfl, hr, _, rfl, q⟩
  unfold compareOp at key ⊢
  dsimp only at key ⊢
  refine wpAny_bind ?_
  unfold wpAny
  intro Γ p hΓ
  have k3 := key Γ p hΓ
  have k4 := (Sem.wp_bind _ _ (contains u v) (fun b => pure (Value.bool b)) _ _ p s).symm ▸ k3
  refine Sem.wp_mono _ _ _ (fun b pos' sh' h2 => ?_) (fun _ _ _ z => z) _ _ k4
  intro Γ' p' hΓ'
  obtain ⟨z, H1, I1, r1, b', rfl, q1⟩ := h2
  cases r1
  exact ⟨_, H1, I1, by first | rfl | constructor | trivial, q1⟩
theorem vals_pick {xs : List V} {its : List Value} (r : Vals xs its) : ∀ ks : List Nat, Vals (ks.filterMap (xs[·]?)) (ks.filterMap (its[·]?))
  | [] => .nil
  | k :: ks => by
    have ih := vals_pick r ks
    rw [List.filterMap_cons, List.filterMap_cons]
    have hl := r.length
    by_cases hk : k < xs.length
    · obtain ⟨u, e, ru⟩ := r.get (List.getElem?_eq_getElem hk)
      rw [List.getElem?_eq_getElem hk, e]
      exact .cons ru ih
    · rw [List.getElem?_eq_none (by omega), List.getElem?_eq_none (by omega)]
      exact ih
theorem pe_slice3 {x : Str} {px p2 pos : Pos} {lo hi : Option Expr} {st : Expr} {te : TE} {tl th ts : TO} (he : PE X (.Name x px) te) (hl : PO X lo tl) (hh : PO X hi th) (hs : PO X (some st) ts) :
    PE X (.Subscript (.Name x px) (.Slice lo hi (some st) p2) pos) (fun σ H Q => te σ H fun v H1 => tl σ H1 fun l H2 => th σ H2 fun u H3 => ts σ H3 fun k H4 =>
      ∃ a xs, v = .ref a ∧ SqL X.K H4 a xs ∧ k ≠ some 0 ∧ ((sliceRange (sliceBounds l u k xs.length).1 (sliceBounds l u k xs.length).2.1 (sliceBounds l u k xs.length).2.2).filterMap (xs[·]?)).length ≤ sizeLine ∧ ∀ p, H4 p = none → Q (.ref p) (upd H4 p (.lst ((sliceRange (sliceBounds l u k xs.length).1 (sliceBounds l u k xs.length).2.1 (sliceBounds l u k xs.length).2.2).filterMap (xs[·]?))))) := by
  refine ⟨fun pins s σ H Q I h => wpAny_Subscript_Slice_step (T := "list") (id := "list.__getitem__") rfl (thn (he.run pins s σ H _ I h) fun v s1 q => ?_) (fun o r => rfl)⟩
  obtain ⟨x1, H1, I1, r1, q⟩ := q
  refine wpAny_Slice (thn (hl.run pins s1 σ H1 _ I1 q) fun vl s2 q2 => ?_)
  obtain ⟨ol, H2, I2, pl, q2⟩ := q2
  refine thn (hh.run pins s2 σ H2 _ I2 q2) fun vu s3 q3 => ?_
  obtain ⟨ou, H3, I3, pu, q3⟩ := q3
  refine thn (hs.run pins s3 σ H3 _ I3 q3) fun vk s4 q4 => ?_
  obtain ⟨ok, H4, I4, pk, a, xs, rfl, hq, hk, hle, q4⟩ := q4
  cases r1
  have I5 : Inv X pins σ H4 { heap := s4.heap.push { cls := Value.type "slice", data := Data.fields #[vl, vu, vk] }, gens := s4.gens, drawn := s4.drawn, toks := s4.toks, os := s4.os } :=
    I4.turnedL (ch := []) (fun b o _ e => Heap.get?_push_of_some _ e) (fun b hb => by cases hb)
  obtain ⟨its, rv, p, hz⟩ := I5.list hq
  have hlen := rv.length
  refine ⟨?_, wpAny_getItem_list_slice p.isList ⟨_, Heap.get?_push_size _ rfl, rfl, rfl⟩ pl pu pk hk ?_ (by simpa [hlen] using hz)⟩
  · obtain ⟨o, n, e1, e2, _⟩ := p
    exact ⟨o, e1, e2⟩
  · have hv : Vals ((sliceRange (sliceBounds ol ou ok xs.length).1 (sliceBounds ol ou ok xs.length).2.1 (sliceBounds ol ou ok xs.length).2.2).filterMap (xs[·]?)) (slicePick its.toArray ol ou ok).toList := by
      unfold slicePick
      rw [List.size_toArray, ← hlen]
      simpa using vals_pick rv _
    refine ⟨.ref _, _, I5.lnew (t' := s4.toks) hv hle, rfl, q4 _ I5.fresh⟩
def BOp.op : BOp → Operator
  | .add => .Add | .sub => .Sub | .mul => .Mult | .fdiv => .FloorDiv | .mod => .Mod | .pow => .Pow
theorem op_bop (o : BOp) : OpR X (binaryOp o.op) (r2 X.K (bopD o)) := by
  intro pins s σ H x y v u Q I rx ry h
  obtain ⟨F, dx, dy, sm, hx, hy, h⟩ := h
  unfold bopD at h
  split at h
  · obtain rfl := hx.int; obtain rfl := hy.int
    exact op_add pins s σ H _ _ v u Q I rx ry ⟨_, _, rfl, rfl, h.flat sm (.int _)⟩
  · obtain ⟨l, vs, rfl, h1, h2⟩ := hx.list sm
    obtain ⟨l', vs', rfl, h1', h2'⟩ := hy.list sm
    split at h
    · rename_i hl
      have hl := line_ok hl
      cases rx; cases ry
      exact cat_sq I h1 h1' (by rw [h2.length, h2'.length]; omega) (h.new sm (h2.app h2'))
    · exact h.elim
  · obtain ⟨l, vs, rfl, h1, h2⟩ := hx.tuple sm
    obtain ⟨l', vs', rfl, h1', h2'⟩ := hy.tuple sm
    split at h
    · rename_i xs ys hl
      have hl := line_ok hl
      have e1 := h2.length
      have e2 := h2'.length
      refine op_catA pins s σ H _ _ v u Q I rx ry ⟨l, l', vs, vs', rfl, rfl, sqt_mono sm h1, sqt_mono sm h1', by omega, fun e => ?_, fun ne e => ?_, fun _ _ => h.newT sm (h2.app h2')⟩
      · subst e
        cases h2
        exact h.flat sm (.tup h1' h2')
      · subst e
        cases h2'
        rw [List.append_nil] at h
        exact h.flat sm (.tup h1 h2)
    · exact h.elim
  · obtain rfl := hx.int; obtain rfl := hy.int
    exact op_sub pins s σ H _ _ v u Q I rx ry ⟨_, _, rfl, rfl, h.flat sm (.int _)⟩
  · obtain rfl := hx.int; obtain rfl := hy.int
    split at h
    · rename_i hm
      exact op_mulW pins s σ H _ _ v u Q I rx ry ⟨_, _, rfl, rfl, (of_decide_eq_true (p := _ < _) hm), h.flat sm (.int _)⟩
    · exact h.elim
  · obtain ⟨l, vs, rfl, h1, h2⟩ := hx.tuple sm
    obtain rfl := hy.int
    unfold mulT at h
    split at h
    · exact h.elim
    rename_i xs k hne
    have hv : vs ≠ [] := fun e => by
      subst e
      cases h2
      exact hne rfl
    refine op_mulT pins s σ H _ _ v u Q I rx ry ⟨l, k, vs, rfl, rfl, sqt_mono sm h1, ?_⟩
    split at h
    · rename_i hk
      exact .inl ⟨hk, h.flat sm (.tup h1 h2)⟩
    · split at h
      · rename_i hk
        exact .inr (.inl ⟨hk, hv, h.newT sm .nil⟩)
      · split at h
        · rename_i hk
          simp only [Bool.and_eq_true, decide_eq_true_eq] at hk
          exact .inr (.inr ⟨hv, hk.1.1, hk.1.2, by rw [h2.length]; exact hk.2, h.newT sm (h2.rep _)⟩)
        · exact h.elim
  · obtain rfl := hx.int; obtain rfl := hy.int
    split at h
    · rename_i hm
      exact op_fdivG pins s σ H _ _ v u Q I rx ry ⟨_, _, rfl, rfl, hm, h.flat sm (.int _)⟩
    · exact h.elim
  · obtain rfl := hx.int; obtain rfl := hy.int
    split at h
    · rename_i hm
      exact op_modN pins s σ H _ _ v u Q I rx ry ⟨_, _, rfl, rfl, by simpa using hm, h.flat sm (.int _)⟩
    · exact h.elim
  · obtain rfl := hx.int; obtain rfl := hy.int
    split at h
    · rename_i hm
      rw [Bool.and_eq_true, Bool.and_eq_true] at hm
      exact op_pow pins s σ H _ _ v u Q I rx ry ⟨_, _, rfl, rfl, ⟨of_decide_eq_true hm.1.1, of_decide_eq_true hm.1.2, of_decide_eq_true hm.2⟩, h.flat sm (.int _)⟩
    · exact h.elim
  · exact h.elim
theorem op_repD : OpR X (binaryOp .Mult) (fun x y H Q => ∃ F l vs ds dy, Same F H ∧ x = .ref l ∧ H l = some (.lst vs) ∧ DqAll X.K F vs ds ∧ RB X.K H F dy y ∧ AfV X.K H F (repD ds dy) Q) := by
  intro pins s σ H x y v u Q I rx ry h
  obtain ⟨F, l, vs, ds, dy, sm, rfl, hl, hv, hy, h⟩ := h
  unfold repD at h
  split at h
  · obtain rfl := hy.int
    split at h
    · rename_i hm
      rw [Bool.and_eq_true, Bool.and_eq_true] at hm
      have h1 := of_decide_eq_true hm.1.1
      have h2 := of_decide_eq_true hm.1.2
      have h3 := line_ok hm.2
      exact op_rep pins s σ H _ _ v u Q I rx ry ⟨l, _, vs, rfl, rfl, hl, by omega, by omega, by rw [hv.length]; omega, h.new sm (hv.rep _)⟩
    · exact h.elim
  · exact h.elim
def COp.op : COp → CmpOp
  | .lt => .Lt | .le => .LtE | .gt => .Gt | .ge => .GtE | .eq => .Eq | .ne => .NotEq | .isIn => .In | .notIn => .NotIn | .isN => .Is | .notN => .IsNot | .isB => .Is | .notB => .IsNot
theorem RB.non_iff {K : PySem.W.Frag} {H F : Hp} {d : D} {v : V} (h : RB K H F d v) : decide (v = .non) = nonD d := by
  rcases h with h | ⟨l, vs, ds', rfl, rfl, h1, h3⟩
  · cases h <;> rfl
  · rfl
theorem op_cmp (hu : X.A.units + 65 < cLine) (o : COp) : OpR X (compareOp o.op) (r2 X.K (cmpD o)) := by
  intro pins s σ H x y v u Q I rx ry h
  obtain ⟨F, dx, dy, sm, hx, hy, h⟩ := h
  unfold cmpD at h
  split at h
  · obtain rfl := hx.int; obtain rfl := hy.int
    exact op_lt pins s σ H _ _ v u Q I rx ry ⟨_, _, rfl, rfl, h.flat sm (.bl _)⟩
  · obtain rfl := hx.int; obtain rfl := hy.int
    exact op_le pins s σ H _ _ v u Q I rx ry ⟨_, _, rfl, rfl, h.flat sm (.bl _)⟩
  · obtain rfl := hx.int; obtain rfl := hy.int
    exact op_gt pins s σ H _ _ v u Q I rx ry ⟨_, _, rfl, rfl, h.flat sm (.bl _)⟩
  · obtain rfl := hx.int; obtain rfl := hy.int
    exact op_ge pins s σ H _ _ v u Q I rx ry ⟨_, _, rfl, rfl, h.flat sm (.bl _)⟩
  · split at h
    · rename_i he
      unfold eqOk at he
      rw [Bool.and_eq_true] at he
      exact op_eqD (by omega) pins s σ H _ _ v u Q I rx ry ⟨_, _, hx.dp sm, hy.dp sm, he.1, he.2, h.flat sm (.bl _)⟩
    · exact h.elim
  · split at h
    · rename_i he
      unfold eqOk at he
      rw [Bool.and_eq_true] at he
      exact op_neD (by omega) pins s σ H _ _ v u Q I rx ry ⟨_, _, hx.dp sm, hy.dp sm, he.1, he.2, h.flat sm (.bl _)⟩
    · exact h.elim
  · split at h
    · rename_i he
      unfold eqOk at he
      rw [Bool.and_eq_true] at he
      exact op_inD hu pins s σ H _ _ v u Q I rx ry ⟨_, _, hx.dp sm, hy.dp sm, he.1, he.2, h.flat sm (.bl _)⟩
    · exact h.elim
  · split at h
    · rename_i he
      unfold eqOk at he
      rw [Bool.and_eq_true] at he
      exact op_notInD hu pins s σ H _ _ v u Q I rx ry ⟨_, _, hx.dp sm, hy.dp sm, he.1, he.2, h.flat sm (.bl _)⟩
    · exact h.elim
  · obtain rfl := hy.none
    refine op_isN pins s σ H _ _ v u Q I rx ry ⟨rfl, ?_⟩
    rw [hx.non_iff]
    exact h.flat sm (.bl _)
  · obtain rfl := hy.none
    refine op_notN pins s σ H _ _ v u Q I rx ry ⟨rfl, ?_⟩
    rw [hx.non_iff]
    exact h.flat sm (.bl _)
  · obtain rfl := hx.bool; obtain rfl := hy.bool
    exact op_isBl pins s σ H _ _ v u Q I rx ry ⟨_, _, rfl, rfl, h.flat sm (.bl _)⟩
  · obtain rfl := hx.bool; obtain rfl := hy.bool
    exact op_notBl pins s σ H _ _ v u Q I rx ry ⟨_, _, rfl, rfl, h.flat sm (.bl _)⟩
  · exact h.elim
theorem ix_all : IxR X (r2 X.K ixD) := by
  intro value slice pins s σ H x y v u Q I rx ry h hs
  obtain ⟨F, dx, dy, sm, hx, hy, h⟩ := h
  unfold ixD at h
  split at h
  · obtain ⟨l, vs, rfl, h1, h2⟩ := hx.list sm
    obtain rfl := hy.int
    split at h
    · rename_i hat
      obtain ⟨z, e, hz⟩ := at_all h2 hat
      exact ix_list value slice pins s σ H _ _ v u Q I rx ry ⟨l, vs, _, z, rfl, rfl, h1, e, h.flat sm hz⟩ hs
    · exact h.elim
  · obtain ⟨l, vs, rfl, h1, h2⟩ := hx.tuple sm
    obtain rfl := hy.int
    split at h
    · rename_i hat
      obtain ⟨z, e, hz⟩ := at_all h2 hat
      exact ix_tup value slice pins s σ H _ _ v u Q I rx ry ⟨l, vs, _, z, rfl, rfl, sqt_mono sm h1, e, h.flat sm hz⟩ hs
    · exact h.elim
  · exact h.elim
def rS (K : PySem.W.Frag) : V → Option Int → Option Int → Hp → VK → Prop := fun x lo hi H Q => ∃ F dx, Same F H ∧ RB K H F dx x ∧ AfV K H F (slD dx lo hi) Q
theorem cut_whole {α : Type} {xs : List α} {lo hi : Option Int} (h : HT.sIx xs.length 0 lo = 0 ∧ HT.sIx xs.length xs.length hi = xs.length) : (xs.drop (HT.sIx xs.length 0 lo)).take (HT.sIx xs.length xs.length hi - HT.sIx xs.length 0 lo) = xs := by
  rw [h.1, h.2, List.drop_zero, Nat.sub_zero, List.take_length]
theorem sl_all : SlR X (rS X.K) := by
  intro pins s σ H x v vl vu lo hi sl Q I rx hs pl pu h
  obtain ⟨F, dx, sm, hx, h⟩ := h
  unfold slD at h
  split at h
  · obtain ⟨l, vs, rfl, h1, h2⟩ := hx.list sm
    exact sl_list pins s σ H _ v vl vu lo hi sl Q I rx hs pl pu ⟨l, vs, rfl, h1, h.new sm (cut_all h2 lo hi)⟩
  · obtain ⟨l, vs, rfl, h1, h2⟩ := hx.tuple sm
    refine sl_tupA pins s σ H _ v vl vu lo hi sl Q I rx hs pl pu ⟨l, vs, rfl, sqt_mono sm h1, fun e => ?_, fun _ => h.newT sm (cut_all h2 lo hi)⟩
    have c := cut_all h2 lo hi
    have e2 : cutV vs lo hi = vs := cut_whole e
    rw [e2] at c
    exact h.flat sm (.tup h1 c)
  · exact h.elim
theorem RBs.one {K : PySem.W.Frag} {H F : Hp} {xs : List V} {d : D} (h : RBs K H F xs [d]) : ∃ x, xs = [x] ∧ RB K H F d x := by
  cases h with
  | cons h1 h2 => cases h2; exact ⟨_, rfl, h1⟩
theorem RBs.two {K : PySem.W.Frag} {H F : Hp} {xs : List V} {d e : D} (h : RBs K H F xs [d, e]) : ∃ x y, xs = [x, y] ∧ RB K H F d x ∧ RB K H F e y := by
  cases h with
  | cons h1 h2 =>
    cases h2 with
    | cons h3 h4 => cases h4; exact ⟨_, _, rfl, h1, h3⟩
theorem mem_minI : ∀ (r : List Int) (x m : Int), m ∈ x :: r → (∀ y, y ∈ x :: r → m ≤ y) → m = minI (x :: r)
  | [], x, m, h, _ => by simpa [minI] using h
  | y :: r, x, m, h, hle => by
    have hx := hle x List.mem_cons_self
    show m = (if minI (y :: r) < x then minI (y :: r) else x)
    have key : ∀ (r : List Int) (y : Int), minI (y :: r) ∈ y :: r ∧ ∀ z, z ∈ y :: r → minI (y :: r) ≤ z := by
      intro r
      induction r with
      | nil => intro y; exact ⟨List.mem_cons_self, fun z hz => by simp at hz; subst hz; exact Int.le_refl _⟩
      | cons w r ih =>
        intro y
        obtain ⟨i1, i2⟩ := ih w
        show (if minI (w :: r) < y then minI (w :: r) else y) ∈ y :: w :: r ∧ ∀ z, z ∈ y :: w :: r → (if minI (w :: r) < y then minI (w :: r) else y) ≤ z
        split
        · refine ⟨List.mem_cons_of_mem _ i1, fun z hz => ?_⟩
          rcases List.mem_cons.mp hz with rfl | hz
          · omega
          · exact i2 z hz
        · refine ⟨List.mem_cons_self, fun z hz => ?_⟩
          rcases List.mem_cons.mp hz with rfl | hz
          · exact Int.le_refl _
          · have := i2 z hz; omega
    obtain ⟨k1, k2⟩ := key r y
    have k3 := hle _ (List.mem_cons_of_mem x k1)
    rcases List.mem_cons.mp h with rfl | h
    · rw [if_neg (by omega)]
    · have k4 := k2 m h
      by_cases e : minI (y :: r) < x
      · rw [if_pos e]; omega
      · rw [if_neg e]; omega
theorem mem_maxI : ∀ (r : List Int) (x m : Int), m ∈ x :: r → (∀ y, y ∈ x :: r → y ≤ m) → m = maxI (x :: r)
  | [], x, m, h, _ => by simpa [maxI] using h
  | y :: r, x, m, h, hle => by
    have hx := hle x List.mem_cons_self
    show m = (if x < maxI (y :: r) then maxI (y :: r) else x)
    have key : ∀ (r : List Int) (y : Int), maxI (y :: r) ∈ y :: r ∧ ∀ z, z ∈ y :: r → z ≤ maxI (y :: r) := by
      intro r
      induction r with
      | nil => intro y; exact ⟨List.mem_cons_self, fun z hz => by simp at hz; subst hz; exact Int.le_refl _⟩
      | cons w r ih =>
        intro y
        obtain ⟨i1, i2⟩ := ih w
        show (if y < maxI (w :: r) then maxI (w :: r) else y) ∈ y :: w :: r ∧ ∀ z, z ∈ y :: w :: r → z ≤ (if y < maxI (w :: r) then maxI (w :: r) else y)
        split
        · refine ⟨List.mem_cons_of_mem _ i1, fun z hz => ?_⟩
          rcases List.mem_cons.mp hz with rfl | hz
          · omega
          · exact i2 z hz
        · refine ⟨List.mem_cons_self, fun z hz => ?_⟩
          rcases List.mem_cons.mp hz with rfl | hz
          · exact Int.le_refl _
          · have := i2 z hz; omega
    obtain ⟨k1, k2⟩ := key r y
    have k3 := hle _ (List.mem_cons_of_mem x k1)
    rcases List.mem_cons.mp h with rfl | h
    · rw [if_neg (by omega)]
    · have k4 := k2 m h
      by_cases e : x < maxI (y :: r)
      · rw [if_pos e]; omega
      · rw [if_neg e]; omega
def Bi.nm : Bi → Str
  | .abs => "abs" | .len => "len" | .int => "int" | .list => "list" | .tuple => "tuple" | .sum => "sum" | .all => "all" | .min => "min" | .max => "max" | .sorted => "sorted"
def Bi.v : Bi → Value
  | .abs => .builtin "abs" | .len => .builtin "len" | .int => .type "int" | .list => .type "list" | .tuple => .type "tuple" | .sum => .builtin "sum" | .all => .builtin "all" | .min => .builtin "min" | .max => .builtin "max" | .sorted => .builtin "sorted"
theorem call_bi (hc : X.calm = true) (f : Bi) : CallR X f.v (rn X.K (biD f)) := by
  intro pins s σ H xs us Q I r h
  obtain ⟨F, ds, sm, hx, h⟩ := h
  unfold biD at h
  split at h
  · obtain ⟨x, rfl, h1⟩ := hx.one
    obtain rfl := h1.int
    exact call_abs pins s σ H _ us Q I r ⟨_, rfl, h.flat sm (.int _)⟩
  · obtain ⟨x, rfl, h1⟩ := hx.one
    obtain ⟨l, vs, rfl, h1, h2⟩ := h1.list sm
    refine call_len_seq pins s σ H _ us Q I r ⟨l, vs, rfl, .inl h1, ?_⟩
    rw [h2.length]
    exact h.flat sm (.int _)
  · obtain ⟨x, rfl, h1⟩ := hx.one
    obtain ⟨l, vs, rfl, h1, h2⟩ := h1.tuple sm
    refine call_len_seq pins s σ H _ us Q I r ⟨l, vs, rfl, .inr (sqt_mono sm h1), ?_⟩
    rw [h2.length]
    exact h.flat sm (.int _)
  · obtain ⟨x, rfl, h1⟩ := hx.one
    obtain rfl := h1.int
    exact call_int1 pins s σ H _ us Q I r (.inl ⟨_, rfl, h.flat sm (.int _)⟩)
  · obtain ⟨x, rfl, h1⟩ := hx.one
    obtain rfl := h1.bool
    exact call_int1 pins s σ H _ us Q I r (.inr ⟨_, rfl, h.flat sm (.int _)⟩)
  · obtain ⟨x, rfl, h1⟩ := hx.one
    obtain ⟨l, vs, rfl, h1, h2⟩ := h1.list sm
    exact call_list_of pins s σ H _ us Q I r ⟨l, vs, rfl, .inl h1, h.new sm h2⟩
  · obtain ⟨x, rfl, h1⟩ := hx.one
    obtain ⟨l, vs, rfl, h1, h2⟩ := h1.tuple sm
    exact call_list_of pins s σ H _ us Q I r ⟨l, vs, rfl, .inr (sqt_mono sm h1), h.new sm h2⟩
  · obtain ⟨x, rfl, h1⟩ := hx.one
    obtain ⟨l, vs, rfl, h1, h2⟩ := h1.list sm
    exact call_tuple_of pins s σ H _ us Q I r ⟨l, vs, rfl, .inl ⟨h1, h.newT sm h2⟩⟩
  · obtain ⟨x, rfl, h1⟩ := hx.one
    obtain ⟨l, vs, rfl, h1, h2⟩ := h1.tuple sm
    exact call_tuple_of pins s σ H _ us Q I r ⟨l, vs, rfl, .inr ⟨sqt_mono sm h1, h.flat sm (.tup h1 h2)⟩⟩
  · obtain ⟨x, rfl, h1⟩ := hx.one
    obtain ⟨l, vs, rfl, h1, h2⟩ := h1.list sm
    split at h
    · rename_i ns hn
      have e := h2.ints hn
      subst e
      exact cr_sum hc pins s σ H _ us Q I r ⟨l, ns, rfl, h1, h.flat sm (.int _)⟩
    · exact h.elim
  · obtain ⟨x, rfl, h1⟩ := hx.one
    obtain ⟨l, vs, rfl, h1, h2⟩ := h1.list sm
    split at h
    · rename_i ns hn
      have e := h2.bools hn
      subst e
      exact cr_all hc pins s σ H _ us Q I r ⟨l, ns, rfl, h1, h.flat sm (.bl _)⟩
    · exact h.elim
  · obtain ⟨x, rfl, h1⟩ := hx.one
    obtain ⟨l, vs, rfl, h1, h2⟩ := h1.list sm
    split at h
    · rename_i n ns hn
      have e := h2.ints hn
      subst e
      refine cr_min hc pins s σ H _ us Q I r ⟨l, n :: ns, rfl, h1, Nat.succ_pos _, fun m hm hle => ?_⟩
      rw [mem_minI ns n m hm hle]
      exact h.flat sm (.int _)
    · exact h.elim
  · obtain ⟨x, rfl, h1⟩ := hx.one
    obtain ⟨l, vs, rfl, h1, h2⟩ := h1.list sm
    split at h
    · rename_i n ns hn
      have e := h2.ints hn
      subst e
      refine cr_max hc pins s σ H _ us Q I r ⟨l, n :: ns, rfl, h1, Nat.succ_pos _, fun m hm hle => ?_⟩
      rw [mem_maxI ns n m hm hle]
      exact h.flat sm (.int _)
    · exact h.elim
  · obtain ⟨x, y, rfl, h1, h2⟩ := hx.two
    obtain rfl := h1.int; obtain rfl := h2.int
    exact call_min2 hc pins s σ H _ us Q I r ⟨_, _, rfl, h.flat sm (.int _)⟩
  · obtain ⟨x, y, rfl, h1, h2⟩ := hx.two
    obtain rfl := h1.int; obtain rfl := h2.int
    exact call_max2 hc pins s σ H _ us Q I r ⟨_, _, rfl, h.flat sm (.int _)⟩
  · exact h.elim
def Ty.nm : Ty → String
  | .int => "int" | .bool => "bool" | .tuple => "tuple" | .list => "list" | .str => "str"
def tyD : D → Option String
  | .none => some "NoneType" | .bool _ => some "bool" | .int _ => some "int" | .str _ => some "str" | .list _ => some "list" | .tuple _ => some "tuple" | .dict _ => none
theorem ty_of {K : PySem.W.Frag} {H F : Hp} {d : D} {v : V} (sm : Same F H) (h : RB K H F d v) : ∃ t, tyD d = some t ∧ TyX K H v (.type t) := by
  rcases h with h | ⟨l, vs, ds', rfl, rfl, h1, h3⟩
  · cases h with
    | non => exact ⟨_, rfl, .base .non⟩
    | bl b => exact ⟨_, rfl, .base (.bl b)⟩
    | int b => exact ⟨_, rfl, .base (.int b)⟩
    | str b => exact ⟨_, rfl, .base (.str b)⟩
    | lst h1 h2 =>
      rcases sql_mono sm h1 with (h | ⟨o, h⟩) | ⟨o, its, n, e1, e2, _⟩
      · exact ⟨_, rfl, .base (.lst h)⟩
      · exact ⟨_, rfl, .base (.frz h)⟩
      · exact ⟨_, rfl, .kList e1 e2⟩
    | tup h1 h2 =>
      rcases sqt_mono sm h1 with (h | ⟨o, h⟩) | ⟨o, its, n, e1, e2, _⟩
      · exact ⟨_, rfl, .base (.tup h)⟩
      · exact ⟨_, rfl, .fTuple h⟩
      · exact ⟨_, rfl, .kTuple e1 e2⟩
  · exact ⟨_, rfl, .base (.lst h1)⟩
theorem isi_kit {K : PySem.W.Frag} {ty : Ty} {d : D} {b : Bool} {t : String} (h : isiD ty d = .ok (.val (.bool b))) (e : tyD d = some t) : PySem.W.kitOne K (.type t) (.type ty.nm) = some b := by
  refine kit_ty ?_
  cases ty <;> cases d <;> simp only [isiD, tyD, M.ok.injEq, B.val.injEq, PyData.bool.injEq, Option.some.injEq, reduceCtorEq] at h e <;> subst h <;> subst e <;> decide +kernel
theorem call_isiD (ty : Ty) : CallR X (.builtin "isinstance") (fun xs H Q => ∃ x F d, xs = [x, .ty ty.nm] ∧ Same F H ∧ RB X.K H F d x ∧ AfV X.K H F (isiD ty d) Q) := by
  intro pins s σ H xs us Q I r h
  obtain ⟨x, F, d, rfl, sm, hx, h⟩ := h
  obtain ⟨t, e, ht⟩ := ty_of sm hx
  have key : ∃ b, isiD ty d = .ok (.val (.bool b)) := by
    cases ty <;> cases d <;> first | exact ⟨_, rfl⟩ | (simp [tyD] at e)
  obtain ⟨b, hb⟩ := key
  rw [hb] at h
  exact call_isi pins s σ H _ us Q I r ⟨x, _, _, _, b, rfl, .ty _, ht, isi_kit hb e, h.flat sm (.bl _)⟩
end
end Tg
namespace Tg
open PySem PySem.Spec PyProof.Rows L2
structure Tb where
  N : List Str
  cal : List Str
  con : List (Str × D)
  exc : List Str
  kit : List (Nat × Str × Bool) := []
  hnd : List (Nat × Str) := []
structure Sc where
  sc : Scope
  fn : Str → Bool
def Sc.kd (s : Sc) (x : Str) : Option NameKind := s.sc.names.lookup x
def ckVis (T : Tb) (s : Sc) (i : Nat) (x : Str) : Bool :=
  decide (T.N[i]? = some x) && (decide (s.kd x = some .local) || decide (s.kd x = some .cell) || decide (s.kd x = some .free)) && (!(x == ("__debug__" : Str))) && (!(x == ("__classdict__" : Str)))
def ckLoc (T : Tb) (s : Sc) (i : Nat) (x : Str) : Bool :=
  decide (T.N[i]? = some x) && (decide (s.kd x = some .local) || (decide (s.kd x = some .cell) && s.fn x))
def ckGl (s : Sc) (x : Str) : Bool := decide (s.kd x = some .globalImplicit) && (!(x == ("__debug__" : Str)))
def ckC (d : D) (c : Const) : Bool := match d, c with
  | .none, .none => true
  | .bool a, .bool b => decide (a = b)
  | .int a, .int b => decide (a = b)
  | .str a, .str b => decide (a = b)
  | _, _ => false
def nst : Expr → Bool
  | .Starred .. => false
  | _ => true
def opB (o : BOp) (p : Operator) : Bool := match o, p with
  | .add, .Add => true | .sub, .Sub => true | .mul, .Mult => true | .fdiv, .FloorDiv => true | .mod, .Mod => true | .pow, .Pow => true
  | _, _ => false
def opC (o : COp) (p : CmpOp) : Bool := match o, p with
  | .lt, .Lt => true | .le, .LtE => true | .gt, .Gt => true | .ge, .GtE => true | .eq, .Eq => true | .ne, .NotEq => true | .isIn, .In => true | .notIn, .NotIn => true
  | .isN, .Is => true | .notN, .IsNot => true | .isB, .Is => true | .notB, .IsNot => true
  | _, _ => false
def nset : Expr → Bool
  | .Set .. => false
  | _ => true
def plainIx : Expr → Bool
  | .Slice .. => false
  | _ => true
def plainT : Expr → Bool
  | .UnaryOp .. => false
  | .BoolOp .. => false
  | .IfExp .. => false
  | .Compare .. => false
  | _ => true
def isN : Expr → Bool
  | .Name .. => true
  | _ => false
mutual
def eqD : D → D → Bool
  | .none, y => (match y with | .none => true | _ => false)
  | .bool a, y => (match y with | .bool b => decide (a = b) | _ => false)
  | .int a, y => (match y with | .int b => decide (a = b) | _ => false)
  | .str a, y => (match y with | .str b => decide (a = b) | _ => false)
  | .list a, y => (match y with | .list b => eqDs a b | _ => false)
  | .tuple a, y => (match y with | .tuple b => eqDs a b | _ => false)
  | .dict _, _ => false
def eqDs : List D → List D → Bool
  | [], y => y.isEmpty
  | a :: r, y => (match y with | b :: s => eqD a b && eqDs r s | [] => false)
end
mutual
theorem eqD_eq : ∀ {x y : D}, eqD x y = true → x = y
  | .none, y, h => by cases y <;> simp [eqD] at h; rfl
  | .bool a, y, h => by cases y <;> simp [eqD] at h; rw [h]
  | .int a, y, h => by cases y <;> simp [eqD] at h; rw [h]
  | .str a, y, h => by cases y <;> simp [eqD] at h; rw [h]
  | .list a, y, h => by cases y <;> simp only [eqD] at h <;> first | cases h | rw [eqDs_eq h]
  | .tuple a, y, h => by cases y <;> simp only [eqD] at h <;> first | cases h | rw [eqDs_eq h]
  | .dict _, y, h => by simp [eqD] at h
theorem eqDs_eq : ∀ {x y : List D}, eqDs x y = true → x = y
  | [], y, h => by cases y <;> simp [eqDs] at h; rfl
  | a :: r, y, h => by
    cases y with
    | nil => simp [eqDs] at h
    | cons b s =>
      simp only [eqDs, Bool.and_eq_true] at h
      rw [eqD_eq h.1, eqDs_eq h.2]
end
mutual
def ckT (T : Tb) (s : Sc) : Tg → Expr → Bool
  | .nm i, e => (match e with | .Name x _ => ckLoc T s i x | _ => false)
  | .tp ts, e => (match e with | .Tuple es _ _ => ckTs T s ts es | _ => false)
def ckTs (T : Tb) (s : Sc) : List Tg → List Expr → Bool
  | [], es => (match es with | [] => true | _ => false)
  | t :: ts, es => (match es with | e :: es => nst e && ckT T s t e && ckTs T s ts es | [] => false)
end
mutual
def slotsT : Tg → List Nat
  | .nm i => [i]
  | .tp ts => slotsTs ts
def slotsTs : List Tg → List Nat
  | [] => []
  | t :: ts => slotsT t ++ slotsTs ts
end
def ownOf (T : Tb) (own : List Nat) : List (Str × Nat) := own.map fun i => (T.N.getD i "", i)
theorem ownOf_snd (T : Tb) (own : List Nat) : (ownOf T own).map (·.2) = own := by
  unfold ownOf
  rw [List.map_map]
  exact List.map_id _
def ckItP (k : ItK) (q : List Expr → Bool) (s : Sc) (e : Expr) : Bool := match k with
  | .seq => nset e && q [e]
  | .rng => (match e with | .Call (.Name x _) xs [] _ => decide (x = "range") && ckGl s x && decide (1 ≤ xs.length) && decide (xs.length ≤ 3) && q xs | _ => false)
  | .zip => (match e with | .Call (.Name x _) xs [] _ => decide (x = "zip") && ckGl s x && decide (xs.length = 2) && q xs | _ => false)
  | .rev => (match e with | .Call (.Name x _) xs [] _ => decide (x = "reversed") && ckGl s x && decide (xs.length = 1) && q xs | _ => false)
mutual
def ckE (T : Tb) : E → Sc → Expr → Bool
  | .var i, s, e => (match e with | .Name x _ => ckVis T s i x | _ => false)
  | .con d, _, e => (match e with | .Constant c _ _ => ckC d c | _ => false)
  | .glob k d, s, e => (match e with
    | .Name x _ => ckGl s x && (match T.con[k]? with | some p => decide (p.1 = x) && eqD p.2 d | none => false)
    | _ => false)
  | .tup es, s, e => (match e with | .Tuple xs _ _ => decide (es.length < 1000) && ckL T es s xs | _ => false)
  | .lst es, s, e => (match e with | .List xs _ => decide (es.length < 1000) && ckL T es s xs | _ => false)
  | .rep es b, s, e => (match e with
    | .BinOp (.List xs _) .Mult y _ => decide (es.length < 1000) && ckL T es s xs && ckE T b s y
    | _ => false)
  | .bop o a b, s, e => (match e with | .BinOp x p y _ => opB o p && ckE T a s x && ckE T b s y | _ => false)
  | .neg a, s, e => (match e with | .UnaryOp .USub x _ => ckE T a s x | _ => false)
  | .not a, s, e => (match e with | .UnaryOp .Not x _ => ckE T a s x | _ => false)
  | .and a b, s, e => (match e with
    | .BoolOp .And (x :: y :: r) p => ckE T a s x && (if r.isEmpty then ckE T b s y else ckE T b s (.BoolOp .And (y :: r) p))
    | _ => false)
  | .or a b, s, e => (match e with
    | .BoolOp .Or (x :: y :: r) p => ckE T a s x && (if r.isEmpty then ckE T b s y else ckE T b s (.BoolOp .Or (y :: r) p))
    | _ => false)
  | .cmp o a b, s, e => (match e with | .Compare x [p] [y] _ => opC o p && nset y && ckE T a s x && ckE T b s y | _ => false)
  | .ix a b, s, e => (match e with | .Subscript x y _ => plainIx y && ckE T a s x && ckE T b s y | _ => false)
  | .sl a lo hi, s, e => (match e with
    | .Subscript x (.Slice l h none _) _ => ckE T a s x && (match l with | some y => ckL T lo s [y] | none => lo.isEmpty) && (match h with | some y => ckL T hi s [y] | none => hi.isEmpty)
    | _ => false)
  | .sl3 a lo hi st, s, e => (match e with
    | .Subscript (.Name x p) (.Slice l h (some k) _) _ => ckE T a s (.Name x p) && (match l with | some y => ckL T lo s [y] | none => lo.isEmpty) && (match h with | some y => ckL T hi s [y] | none => hi.isEmpty) && ckL T st s [k]
    | _ => false)
  | .inr neg a bs, s, e => (match e with
    | .Compare x [p] [.Call (.Name r _) ys [] _] _ => (match p with | .In => !neg | .NotIn => neg | _ => false) && decide (r = "range") && ckGl s r && decide (ys.length = 1) && ckE T a s x && ckL T bs s ys
    | _ => false)
  | .call0 k, s, e => (match e with
    | .Call (.Name x _) [] [] _ => decide (T.cal[k]? = some x) && ckGl s x
    | _ => false)
  | .bi f es, s, e => (match e with
    | .Call (.Name x _) xs [] _ => decide (x = f.nm) && ckGl s x && !xs.isEmpty && ckL T es s xs
    | _ => false)
  | .isi a t, s, e => (match e with
    | .Call (.Name x _) [y, .Name z _] [] _ => decide (x = "isinstance") && ckGl s x && decide (z = Str.ofString t.nm) && ckGl s z && ckE T a s y
    | _ => false)
  | .call k es, s, e => (match e with
    | .Call (.Name x _) xs [] _ => decide (T.cal[k]? = some x) && ckGl s x && !xs.isEmpty && ckL T es s xs
    | _ => false)
  | .lc m t k es c own, s, e => (match e with
    | .ListComp elt [⟨tg, iter, ifs, 0⟩] scope _ =>
      blkC T.N s.sc scope (ownOf T own) && ckItP k (fun xs => ckL T es s xs) s iter && (match k with | .zip => (match tg with | .Tuple .. => true | _ => false) | _ => true) &&
        (slotsT t).all (fun i => own.contains i) && ckT T ⟨relS scope s.sc, fun x => scope.names.lookup x == some .cell⟩ t tg && decide (ifs.length ≤ 1) &&
        ckL T c ⟨relS scope s.sc, fun x => scope.names.lookup x == some .cell⟩ ifs && ckE T m ⟨relS scope s.sc, fun x => scope.names.lookup x == some .cell⟩ elt
    | _ => false)
def ckL (T : Tb) : List E → Sc → List Expr → Bool
  | [], _, xs => xs.isEmpty
  | m :: ms, s, xs => (match xs with | x :: xs => ckE T m s x && ckL T ms s xs | [] => false)
end
def ckIt (T : Tb) (k : ItK) (es : List E) (s : Sc) (e : Expr) : Bool := ckItP k (ckL T es s) s e
theorem ckE_nst {T : Tb} {m : E} {s : Sc} {e : Expr} (h : ckE T m s e = true) : nst e = true := by
  cases e <;> first | rfl | (cases m <;> simp [ckE] at h)
theorem ckL_nst {T : Tb} : ∀ {ms : List E} {s : Sc} {es : List Expr}, ckL T ms s es = true → es.all nst = true
  | [], _, es, h => by
    cases es with
    | nil => rfl
    | cons => simp [ckL] at h
  | m :: ms, s, es, h => by
    cases es with
    | nil => rfl
    | cons e es =>
      simp only [ckL, Bool.and_eq_true] at h
      rw [List.all_cons, ckE_nst h.1, ckL_nst h.2]; rfl
theorem ckL_len {T : Tb} : ∀ {ms : List E} {s : Sc} {es : List Expr}, ckL T ms s es = true → ms.length = es.length
  | [], _, es, h => by
    cases es with
    | nil => rfl
    | cons => simp [ckL] at h
  | m :: ms, s, es, h => by
    cases es with
    | nil => simp [ckL] at h
    | cons e es =>
      simp only [ckL, Bool.and_eq_true] at h
      rw [List.length_cons, List.length_cons, ckL_len h.2]
theorem star_cons {e : Expr} {es : List Expr} {env : Env} (h : nst e = true) : starEach (e :: es) env = (false, eval e env) :: starEach es env := by
  cases e <;> first | rfl | cases h
theorem star_any {pos : Pos} {env : Env} : ∀ {es : List Expr}, es.all nst = true → (backTo pos (starEach es env)).any (·.1) = false
  | [], _ => rfl
  | e :: es, h => by
    rw [List.all_cons, Bool.and_eq_true] at h
    rw [star_cons h.1]
    have ih := star_any (pos := pos) (env := env) h.2
    unfold backTo at ih ⊢
    rw [List.map_cons, List.any_cons, ih]; rfl
theorem asg_cons {e : Expr} {es : List Expr} {env : Env} (h : nst e = true) : assignEach (e :: es) env = (false, assign e env) :: assignEach es env := by
  cases e <;> first | rfl | cases h
theorem asg_len {env : Env} : ∀ {es : List Expr}, es.all nst = true → (assignEach es env).length = es.length ∧ (assignEach es env).findIdx? (·.1) = none
  | [], _ => ⟨rfl, rfl⟩
  | e :: es, h => by
    rw [List.all_cons, Bool.and_eq_true] at h
    rw [asg_cons h.1]
    obtain ⟨i1, i2⟩ := asg_len (env := env) h.2
    refine ⟨by rw [List.length_cons, List.length_cons, i1], ?_⟩
    rw [List.findIdx?_cons, i2]; rfl
theorem nset_fold {e : Expr} {env : Env} (h : nset e = true) (x : Value) : foldedSetIterable e env x = pure x := by
  cases e <;> first | rfl | cases h
theorem nset_mark {e : Expr} {op : CmpOp} (h : nset e = true) : behindInMarks op e = false := by
  cases e <;> first | rfl | cases h
theorem plainIx_ok {e : Expr} (h : plainIx e = true) : PlainIx e := by
  cases e <;> first | exact fun _ _ => rfl | cases h
theorem plainT_ok {e : Expr} {env : Env} (h : plainT e = true) (whole : Sem Value) : isTrue e env whole = (do let v ← whole; standAt e.pos; holding [v] (truthy v)) := by
  cases e <;> first | rfl | cases h
theorem blk_scope {X : Cx} {s : Shared} {H : Hp} {scope : Scope} {cl : List (Str × Addr)} {C : Addr} {fp : List Addr} : (X.blk s H scope (compEnvC scope cl C X.env) fp).env.scope = relS scope X.env.scope := rfl
end Tg
namespace Tg
open PySem PySem.Spec PyProof.Rows L2
def spP (K : PySem.W.Frag) (n : Nat) (den : List D → M B) (ev : Nat → Value) : Sp := fun vs H Q E => ∃ F ds, vs.length = n ∧ Same F H ∧ DqAll K F vs ds ∧ match den ds with
  | .ok b => ∀ v H' F', Gr H F H' F' → RepB K H' F' b v → NewB H b v → Q v H'
  | .ex c => ∀ H' F', Gr H F H' F' → E (ev c) none H'
  | .stuck => False
def bltNames : List Str := ["abs", "len", "int", "list", "tuple", "sum", "all", "min", "max", "sorted", "range", "zip", "reversed", "isinstance", "bool", "str"]
def NmIs (mg : Str → Option Value) (x : Str) (c : V) (cv : Value) : Prop := RelV c cv ∧ (∀ u, RelV c u → u = cv) ∧ (mg x = some cv ∨ (mg x = none ∧ bootBuiltins x = some cv ∧ x ≠ ("__name__" : Str)))
structure KitAt (K : PySem.W.Frag) (mg : Str → Option Value) (ev : Nat → Value) (d : Nat) (x : Str) (b : Bool) : Prop where
  ex : ∃ (D : Addr) (c : V) (cv : Value), ev d = .ref D ∧ NmIs mg x c cv ∧ PySem.W.kitOne K (.ref D) cv = some b
structure HndAt (K : PySem.W.Frag) (mg : Str → Option Value) (ev : Nat → Value) (d : Nat) (x : Str) : Prop where
  ex : ∃ (D : Addr) (cv : Value), ev d = .ref D ∧ (mg x = some cv ∨ (mg x = none ∧ bootBuiltins x = some cv ∧ x ≠ ("__name__" : Str))) ∧ PySem.W.exmOne K (.ref D) cv = some true ∧ ExcC K D
structure Good (T : Tb) (Φ : Fs) (w : Wx) (ev : Nat → Value) (s : Sc) (X : Cx) : Prop where
  N : X.N = T.N
  nd : T.N.Nodup
  calm : X.calm = true
  units : X.A.units + 65 < cLine
  sc : X.env.scope = s.sc
  fn : X.fn = s.fn
  calls : ∀ (k : Nat) (x : Str), T.cal[k]? = some x → ∃ f fd ps lvl, X.mg x = some (.ref f) ∧ Room lvl X.A ∧ FnOk X.prog X.w X.K X.mg X.base (L2.CX X.prog X.w) lvl f fd ps (spP X.K ps.length (Φ k) ev) ∧ (∀ ds, ds.length ≠ ps.length → Φ k ds = .stuck) ∧ PySem.W.keepIn X.K (.ref f) = true ∧ Binds X.K fd ps []
  blt : ∀ x ∈ bltNames, X.mg x = none
  con : ∀ (k : Nat) (x : Str) (d : D), T.con[k]? = some (x, d) → ∃ v u, X.mg x = some u ∧ RelV v u ∧ ∀ F, Dq X.K F v d
  tk : Takes X (fun cls d σ H => ∃ c, cls = ev c ∧ d = none ∧ w c σ H)
  po : PassesOwn (model X.prog X.w) X.A X.env X.xe
  exc : ∀ (k : Nat) (x : Str), T.exc[k]? = some x → ∃ C, ev k = .ref C ∧ X.mg x = some (.ref C) ∧ PySem.W.excIn X.K C HandSPX.veTail "ValueError.__new__" = true ∧ PySem.W.keepIn X.K (.ref C) = true ∧ PySem.W.subIn X.K (.ref C) (.type "BaseException") = some true ∧ PySem.W.typeIn X.K (.ref C) = some (.type "type")
  kit : ∀ (d : Nat) (x : Str) (b : Bool), (d, x, b) ∈ T.kit → KitAt X.K X.mg ev d x b
  hnd : ∀ (d : Nat) (x : Str), (d, x) ∈ T.hnd → HndAt X.K X.mg ev d x
abbrev w0 : Wx := fun _ _ _ => False
theorem Good.blk {T : Tb} {Φ : Fs} {w : Wx} {ev : Nat → Value} {s : Sc} {X : Cx} (G : Good T Φ w ev s X) {sh : Shared} {H : Hp} {scope : Scope} {cl : List (Str × Addr)} {C : Addr} {fp : List Addr} :
    Good T Φ w0 ev ⟨relS scope s.sc, fun x => scope.names.lookup x == some .cell⟩ (X.blk sh H scope (compEnvC scope cl C X.env) fp) where
  N := G.N
  nd := G.nd
  calm := G.calm
  units := G.units
  sc := by rw [blk_scope, G.sc]
  fn := rfl
  calls := G.calls
  blt := G.blt
  con := G.con
  tk := Takes.imp takes0 fun c d σ H ⟨_, _, _, z⟩ => z
  po := PassesOwn.never
  exc := G.exc
  kit := G.kit
  hnd := G.hnd
section
variable {K : PySem.W.Frag} {w : Wx} {σ : L2.St} {H F : Hp}
theorem AfB.toE {r : M B} {Q : VK} (h : AfB K w σ H F (valM r) Q) : AfE K w σ H F r Q := by
  cases r with
  | ok b => exact fun v H' F' g rep _ => h v H' F' g rep.rb
  | ex c => exact h
  | stuck => exact h
theorem bor_ne {ρ : En} {m : E} {r : M B} (hm : ∀ i, m ≠ .var i) : bor ρ m r = valM r := by
  cases m <;> first | rfl | (rename_i i; exact absurd rfl (hm i))
end
section
variable {T : Tb} {Φ : Fs} {w : Wx} {ev : Nat → Value} {s : Sc} {X : Cx}
theorem vis_of (G : Good T Φ w ev s X) {i : Nat} {x : Str} (h : ckVis T s i x = true) : X.N[i]? = some x ∧ Vis X.env.scope x ∧ (x == ("__debug__" : Str)) = false ∧ (x == ("__classdict__" : Str)) = false := by
  unfold ckVis at h
  simp only [Bool.and_eq_true, Bool.or_eq_true, decide_eq_true_eq, Bool.not_eq_true'] at h
  obtain ⟨⟨⟨h1, h2⟩, h3⟩, h4⟩ := h
  refine ⟨by rw [G.N]; exact h1, ?_, h3, h4⟩
  unfold Vis
  rw [G.sc]
  rcases h2 with (h2 | h2) | h2
  · exact .inl h2
  · exact .inr (.inl h2)
  · exact .inr (.inr h2)
theorem gl_of (G : Good T Φ w ev s X) {x : Str} (h : ckGl s x = true) : Gl X x ∧ (x == ("__debug__" : Str)) = false := by
  unfold ckGl at h
  simp only [Bool.and_eq_true, decide_eq_true_eq, Bool.not_eq_true'] at h
  refine ⟨?_, h.2⟩
  show X.env.scope.names.lookup x = _
  rw [G.sc]; exact h.1
theorem pe_varE {i : Nat} {x : Str} {pos : Pos} (G : Good T Φ w ev s X) (h : ckVis T s i x = true) : PE X (.Name x pos) (tE X.K w Φ (.var i)) := by
  obtain ⟨h1, h2, h3, h4⟩ := vis_of G h
  refine pe_weak (pe_var h1 h2 h3 h4) fun σ H Q ⟨H0, F0, F, ρ, R, a⟩ => ?_
  simp only [evE, lookE] at a
  split at a
  · rename_i d e
    obtain ⟨v, e1, e2⟩ := R.val i d e
    exact ⟨v, e1, a v H F (.refl R.s) e2 trivial⟩
  · exact a.elim
theorem pe_varB {i : Nat} {x : Str} {pos : Pos} (G : Good T Φ w ev s X) (h : ckVis T s i x = true) : PE X (.Name x pos) (tB X.K w Φ (.var i)) := by
  obtain ⟨h1, h2, h3, h4⟩ := vis_of G h
  refine pe_weak (pe_var h1 h2 h3 h4) fun σ H Q ⟨H0, F0, F, ρ, R, a⟩ => ?_
  simp only [bor, lookB] at a
  split at a
  · rename_i b e
    cases b with
    | val d =>
      obtain ⟨v, e1, e2⟩ := R.val i d e
      exact ⟨v, e1, a v H F (.refl R.s) (.inl e2)⟩
    | own ds =>
      obtain ⟨l, vs, e1, e2, e3, e4, e5⟩ := R.own i ds e
      exact ⟨.ref l, e1, a _ H F (.refl R.s) (.inr ⟨l, vs, ds, rfl, rfl, e2, e5⟩)⟩
  · exact a.elim
theorem peB {m : E} {e : Expr} (G : Good T Φ w ev s X) (h : ckE T m s e = true) (hE : PE X e (tE X.K w Φ m)) : PE X e (tB X.K w Φ m) := by
  by_cases hm : ∃ i, m = .var i
  · obtain ⟨i, rfl⟩ := hm
    cases e <;> simp [ckE] at h
    exact pe_varB G h
  · refine pe_weak hE fun σ H Q ⟨H0, F0, F, ρ, R, a⟩ => ⟨H0, F0, F, ρ, R, ?_⟩
    rw [bor_ne fun i z => hm ⟨i, z⟩] at a
    exact a.toE
theorem two_r2 {K : PySem.W.Frag} {σ : L2.St} {H H0 F0 F : Hp} {ρ : En} {f : D → D → M B} {a b : E} {Q : VK} (hf : ∀ x y c, f x y ≠ .ex c) (R : StR K H0 F0 σ H F ρ)
    (h : AfE K w σ H F (do let x ← bor ρ a (evE Φ ρ a); let y ← bor ρ b (evE Φ ρ b); f x y) Q) : tOp (r2 K f) (tB K w Φ a) (tB K w Φ b) σ H Q := by
  refine ⟨H0, F0, F, ρ, R, ?_⟩
  cases e1 : bor ρ a (evE Φ ρ a) with
  | stuck => rw [e1] at h; exact h
  | ex c => rw [e1] at h; exact h
  | ok d1 =>
    rw [e1, bind_ok] at h
    intro v1 H1 F1 g1 r1
    refine ⟨H0, F0, F1, ρ, R.grow g1, ?_⟩
    cases e2 : bor ρ b (evE Φ ρ b) with
    | stuck => rw [e2] at h; exact h
    | ex c => rw [e2] at h; exact fun H' F' g => h H' F' (g1.trans g)
    | ok d2 =>
      rw [e2, bind_ok] at h
      intro v2 H2 F2 g2 r2'
      refine ⟨F2, d1, d2, g2.s, r1.mono g2, r2', ?_⟩
      cases e3 : f d1 d2 with
      | stuck => rw [e3] at h; exact h
      | ex c => exact (hf _ _ _ e3).elim
      | ok b =>
        rw [e3] at h
        intro v H' F' g rep nw
        refine h v H' F' ((g1.trans g2).trans g) rep ?_
        cases b with
        | val d => trivial
        | own ds =>
          obtain ⟨l, e, n⟩ := nw
          exact ⟨l, e, (g1.trans g2).h.free n⟩
theorem NewB.back {H H1 : Hp} {b : B} {v : V} (s : Same H H1) (n : NewB H1 b v) : NewB H b v := by
  cases b with
  | val d => trivial
  | own ds =>
    obtain ⟨l, e, n⟩ := n
    exact ⟨l, e, s.free n⟩
theorem noex_mulT {xs : List D} {k : Int} {c : Nat} : mulT xs k ≠ .ex c := by
  intro h
  unfold mulT at h
  split at h
  · cases h
  · split at h
    · cases h
    · split at h
      · cases h
      · split at h <;> cases h
theorem noex_bop {o : BOp} {x y : D} {c : Nat} : bopD o x y ≠ .ex c := by
  intro h
  unfold bopD at h
  split at h <;> first | cases h | exact noex_mulT h | (split at h <;> cases h)
theorem noex_cmp {o : COp} {x y : D} {c : Nat} : cmpD o x y ≠ .ex c := by
  intro h
  unfold cmpD at h
  split at h <;> first | cases h | (split at h <;> cases h)
theorem noex_ix {x y : D} {c : Nat} : ixD x y ≠ .ex c := by
  intro h
  unfold ixD at h
  split at h <;> first | cases h | (split at h <;> cases h)
theorem noex_sl {x : D} {l u : Option Int} {c : Nat} : slD x l u ≠ .ex c := by
  intro h
  unfold slD at h
  split at h <;> cases h
theorem noex_rep {xs : List D} {y : D} {c : Nat} : repD xs y ≠ .ex c := by
  intro h
  unfold repD at h
  split at h <;> first | cases h | (split at h <;> cases h)
theorem noex_isi {t : Ty} {x : D} {c : Nat} : isiD t x ≠ .ex c := by
  cases t <;> cases x <;> exact fun h => by cases h
theorem noex_bi {f : Bi} {xs : List D} {c : Nat} : biD f xs ≠ .ex c := by
  intro h
  unfold biD at h
  split at h <;> first | cases h | (split at h <;> cases h)
end
end Tg
namespace Tg
open PySem PySem.Spec PyProof.Rows L2
def ItOk (K : PySem.W.Frag) (J : It) (ds : List D) (G F : Hp) : Prop := ∀ (i : Nat) (H1 F1 : Hp), Same G H1 → Same F F1 → Same F1 H1 →
  (∀ d, ds[i]? = some d → J.go i H1 ∧ ∀ x H2, J.yld i H1 x H2 → ∃ F2, Gr H1 F1 H2 F2 ∧ Dq K F2 x d) ∧ (i = ds.length → J.stop i H1)
def vI (K : PySem.W.Frag) (k : ItK) (vs : List V) (H : Hp) (R : It → Hp → Prop) : Prop := ∃ G F ds xs, Same F G ∧ Same G H ∧ RBs K G F vs ds ∧ itD k ds = .ok xs ∧ ∀ J, ItOk K J xs G F → R J H
section
variable {K : PySem.W.Frag} {G F H : Hp} {l : Addr} {vs : List V} {ds : List D}
theorem itok_list (h : SqL K G l vs) (r : DqAll K F vs ds) : ItOk K (Itl K l) ds G F := fun i H1 F1 sg sf s1 => by
  have hq : SqL K H1 l vs := sql_mono sg h
  refine ⟨fun d e => ?_, fun e => ⟨vs, hq, by rw [r.length]; omega⟩⟩
  obtain ⟨v, e1, e2⟩ := r.get e
  refine ⟨⟨vs, v, hq, e1⟩, fun x H2 y => ?_⟩
  obtain ⟨rfl, y⟩ := y
  have := y vs hq
  rw [e1] at this; cases this
  exact ⟨F1, .refl s1, Dq.mono sf _ _ e2⟩
theorem itok_tup (h : SqT K F l vs) (r : DqAll K F vs ds) : ItOk K (Itt K l) ds G F := fun i H1 F1 sg sf s1 => by
  have hq : SqT K H1 l vs := sqt_mono s1 (sqt_mono sf h)
  refine ⟨fun d e => ?_, fun e => ⟨vs, hq, by rw [r.length]; omega⟩⟩
  obtain ⟨v, e1, e2⟩ := r.get e
  refine ⟨⟨vs, v, hq, e1⟩, fun x H2 y => ?_⟩
  obtain ⟨rfl, y⟩ := y
  have := y vs hq
  rw [e1] at this; cases this
  exact ⟨F1, .refl s1, Dq.mono sf _ _ e2⟩
theorem rev_get {α : Type} {xs : List α} {i : Nat} {d : α} (e : xs.reverse[i]? = some d) : i < xs.length ∧ xs[xs.length - 1 - i]? = some d := by
  have h := (List.getElem?_eq_some_iff.mp e).1
  rw [List.length_reverse] at h
  rw [List.getElem?_reverse h] at e
  exact ⟨h, e⟩
theorem itok_revL (h : SqL K G l vs) (r : DqAll K F vs ds) : ItOk K (Itv K l vs.length) ds.reverse G F := fun i H1 F1 sg sf s1 => by
  have hq : SqL K H1 l vs := sql_mono sg h
  refine ⟨fun d e => ?_, fun e => ?_⟩
  · obtain ⟨hi, e⟩ := rev_get e
    rw [← r.length] at hi e
    obtain ⟨v, e1, e2⟩ := r.get e
    refine ⟨⟨hi, vs, v, hq, e1⟩, fun x H2 y => ?_⟩
    obtain ⟨rfl, y⟩ := y
    have := y vs hq
    rw [e1] at this; cases this
    exact ⟨F1, .refl s1, Dq.mono sf _ _ e2⟩
  · rw [List.length_reverse] at e
    show vs.length ≤ i
    rw [r.length]; omega
theorem itok_revT (h : SqT K F l vs) (r : DqAll K F vs ds) : ItOk K (RT.ItvT K l vs.length) ds.reverse G F := fun i H1 F1 sg sf s1 => by
  have hq : SqT K H1 l vs := sqt_mono s1 (sqt_mono sf h)
  refine ⟨fun d e => ?_, fun e => ?_⟩
  · obtain ⟨hi, e⟩ := rev_get e
    rw [← r.length] at hi e
    obtain ⟨v, e1, e2⟩ := r.get e
    refine ⟨⟨hi, vs, v, hq, e1⟩, fun x H2 y => ?_⟩
    obtain ⟨rfl, y⟩ := y
    have := y vs hq
    rw [e1] at this; cases this
    exact ⟨F1, .refl s1, Dq.mono sf _ _ e2⟩
  · rw [List.length_reverse] at e
    show vs.length ≤ i
    rw [r.length]; omega
theorem rngD_len (c : Int) : ∀ (n : Nat) (lo : Int), (rngD lo c n).length = n
  | 0, _ => rfl
  | n + 1, lo => by show (rngD (lo + c) c n).length + 1 = n + 1; rw [rngD_len c n]
theorem rngD_get (c : Int) : ∀ (n : Nat) (lo : Int) (i : Nat) (d : D), (rngD lo c n)[i]? = some d → i < n ∧ d = .int (lo + (i : Int) * c)
  | 0, _, i, d, h => by simp [rngD] at h
  | n + 1, lo, 0, d, h => by simp [rngD] at h; subst h; simp
  | n + 1, lo, i + 1, d, h => by
    have := rngD_get c n (lo + c) i d (by simpa [rngD] using h)
    refine ⟨by omega, ?_⟩
    rw [this.2]
    congr 1
    have : ((i + 1 : Nat) : Int) * c = (i : Int) * c + c := by
      rw [show ((i + 1 : Nat) : Int) = (i : Int) + 1 by omega, Int.add_mul, Int.one_mul]
    omega
theorem itok_rng {lo : Int} {n : Nat} : ItOk K (Itr lo n) (rngD lo 1 n) G F := fun i H1 F1 sg sf s1 => by
  refine ⟨fun d e => ?_, fun e => by rw [rngD_len] at e; exact Nat.le_of_eq e.symm⟩
  obtain ⟨h1, rfl⟩ := rngD_get 1 n lo i d e
  refine ⟨h1, fun x H2 y => ?_⟩
  obtain ⟨rfl, rfl⟩ := y
  rw [Int.mul_one]
  exact ⟨F1, .refl s1, .int _⟩
theorem itok_rngC {lo c : Int} {n : Nat} : ItOk K (Itc lo c n) (rngD lo c n) G F := fun i H1 F1 sg sf s1 => by
  refine ⟨fun d e => ?_, fun e => by rw [rngD_len] at e; exact Nat.le_of_eq e.symm⟩
  obtain ⟨h1, rfl⟩ := rngD_get c n lo i d e
  refine ⟨h1, fun x H2 y => ?_⟩
  obtain ⟨rfl, rfl⟩ := y
  exact ⟨F1, .refl s1, .int _⟩
theorem zipD_get : ∀ {xs ys : List D} {i : Nat} {d : D}, (zipD xs ys)[i]? = some d → ∃ x y, xs[i]? = some x ∧ ys[i]? = some y ∧ d = .tuple [x, y]
  | [], _, i, d, h => by simp [zipD] at h
  | x :: xs, [], i, d, h => by simp [zipD] at h
  | x :: xs, y :: ys, 0, d, h => by simp [zipD] at h; exact ⟨x, y, rfl, rfl, h.symm⟩
  | x :: xs, y :: ys, i + 1, d, h => by simpa using zipD_get (xs := xs) (ys := ys) (i := i) (d := d) (by simpa [zipD] using h)
theorem zipD_len : ∀ {xs ys : List D}, (zipD xs ys).length = min xs.length ys.length
  | [], _ => by simp [zipD]
  | x :: xs, [] => by simp [zipD]
  | x :: xs, y :: ys => by show (zipD xs ys).length + 1 = _; rw [zipD_len, List.length_cons, List.length_cons]; omega
theorem pair_ok {H1 F1 : Hp} {T : Addr} {x y : V} {a b : D} (s1 : Same F1 H1) (n : H1 T = none) (h1 : Dq K F1 x a) (h2 : Dq K F1 y b) : ∃ F2, Gr H1 F1 (upd H1 T (.tup [x, y])) F2 ∧ Dq K F2 (.ref T) (.tuple [a, b]) := by
  have sn := same_new (o := .tup [x, y]) (s1.free n)
  exact ⟨_, .lay s1 n, .tup (.of upd_same) (.cons (Dq.mono sn _ _ h1) (.cons (Dq.mono sn _ _ h2) .nil))⟩
theorem itok_zipL {l2 : Addr} {us : List V} {es : List D} (h : SqL K G l vs) (r : DqAll K F vs ds) (h' : SqL K G l2 us) (r' : DqAll K F us es) : ItOk K (Itz K l l2) (zipD ds es) G F := fun i H1 F1 sg sf s1 => by
  have hq : SqL K H1 l vs := sql_mono sg h
  have hq' : SqL K H1 l2 us := sql_mono sg h'
  refine ⟨fun d e => ?_, fun e => ⟨vs, us, hq, hq', by rw [zipD_len] at e; rw [r.length, r'.length]; omega⟩⟩
  obtain ⟨a, b, e1, e2, rfl⟩ := zipD_get e
  obtain ⟨x, f1, f2⟩ := r.get e1
  obtain ⟨y, g1, g2⟩ := r'.get e2
  refine ⟨⟨vs, us, x, y, hq, hq', f1, g1⟩, fun v H2 yl => ?_⟩
  obtain ⟨T, x', y', rfl, nT, rfl, k1, k2⟩ := yl
  have := k1 vs hq; rw [f1] at this; cases this
  have := k2 us hq'; rw [g1] at this; cases this
  exact pair_ok s1 nT (Dq.mono sf _ _ f2) (Dq.mono sf _ _ g2)
theorem itok_zipT {l2 : Addr} {us : List V} {es : List D} (h : SqT K F l vs) (r : DqAll K F vs ds) (h' : SqT K F l2 us) (r' : DqAll K F us es) : ItOk K (RZ.ItzT K l l2) (zipD ds es) G F := fun i H1 F1 sg sf s1 => by
  have hq : SqT K H1 l vs := sqt_mono s1 (sqt_mono sf h)
  have hq' : SqT K H1 l2 us := sqt_mono s1 (sqt_mono sf h')
  refine ⟨fun d e => ?_, fun e => ⟨vs, us, hq, hq', by rw [zipD_len] at e; rw [r.length, r'.length]; omega⟩⟩
  obtain ⟨a, b, e1, e2, rfl⟩ := zipD_get e
  obtain ⟨x, f1, f2⟩ := r.get e1
  obtain ⟨y, g1, g2⟩ := r'.get e2
  refine ⟨⟨vs, us, x, y, hq, hq', f1, g1⟩, fun v H2 yl => ?_⟩
  obtain ⟨T, x', y', rfl, nT, rfl, k1, k2⟩ := yl
  have := k1 vs hq; rw [f1] at this; cases this
  have := k2 us hq'; rw [g1] at this; cases this
  exact pair_ok s1 nT (Dq.mono sf _ _ f2) (Dq.mono sf _ _ g2)
end
theorem seqD_ok {d : D} {xs : List D} (h : seqD d = .ok xs) : d = .list xs ∨ d = .tuple xs := by
  cases d <;> simp [seqD] at h <;> subst h
  · exact .inl rfl
  · exact .inr rfl
section
variable {T : Tb} {Φ : Fs} {w : Wx} {ev : Nat → Value} {s : Sc} {X : Cx} {tg e : Expr} {ta : TA} {te : TE}
theorem pi_seqV (he : PE X e te) : PI X tg e (fun σ H R => te σ H fun x H1 => vI X.K .seq [x] H1 R) := by
  refine ⟨fun pins s σ H R I h => thn (he.run pins s σ H _ I h) fun v s1 q => ?_⟩
  obtain ⟨x, H1, I1, r1, G, F, ds, xs, sf, sg, rb, ed, q⟩ := q
  obtain ⟨d, rfl⟩ : ∃ d, ds = [d] := by
    cases rb with
    | cons _ h2 => cases h2; exact ⟨_, rfl⟩
  have rb := rb.one
  obtain ⟨x', ex, rb⟩ := rb
  cases ex
  simp only [itD] at ed
  rcases seqD_ok ed with rfl | rfl
  · obtain ⟨l, vs, rfl, h1, h2⟩ := rb.list sf
    cases r1
    obtain ⟨its, rv, p, hz⟩ := I1.list (sql_mono sg h1)
    exact wpAny_pyIter_list p.isList (pi_one (tk := s1.toks) I1 _ (turn_list l _) ⟨_, Heap.get?_push_size _ rfl, rfl, rfl⟩ (q _ (itok_list h1 h2)))
  · obtain ⟨l, vs, rfl, h1, h2⟩ := rb.tuple sf
    cases r1
    obtain ⟨its, rv, p, hz⟩ := I1.tuple (sqt_mono sg (sqt_mono sf h1))
    exact wpAny_pyIter_tuple (show s1.heap.IsTuple l its.toArray from p) (pi_one (tk := s1.toks) I1 _ (turn_tuple l _) ⟨_, Heap.get?_push_size _ rfl, rfl, rfl⟩ (q _ (itok_tup h1 h2)))
theorem pi_weak {wi wi' : TI} (h : PI X tg e wi) (hw : ∀ σ H R, wi' σ H R → wi σ H R) : PI X tg e wi' := ⟨fun pins s σ H R I q => h.run pins s σ H R I (hw σ H R q)⟩
theorem RBs.three {K : PySem.W.Frag} {H F : Hp} {xs : List V} {d e f : D} (h : RBs K H F xs [d, e, f]) : ∃ x y z, xs = [x, y, z] ∧ RB K H F d x ∧ RB K H F e y ∧ RB K H F f z := by
  cases h with
  | cons h1 h2 =>
    obtain ⟨y, z, rfl, h3, h4⟩ := h2.two
    exact ⟨_, _, _, rfl, h1, h3, h4⟩
theorem PA.len {es : List Expr} {t : TA} (h : PA X es t) : True := trivial
theorem small_of {i : Int} (h : smallI i = true) : -(2 ^ 62) ≤ i ∧ i < 2 ^ 62 := by
  unfold smallI at h
  simpa using h
theorem rangeSize_nn {i j c : Int} (h : 0 < c) : 0 ≤ Builtin.Range.rangeSize i j c := by
  unfold Builtin.Range.rangeSize
  rw [if_pos (show c > 0 from h)]
  split
  · have : 0 ≤ (j - i - 1) / c := Int.ediv_nonneg (by omega) (by omega)
    omega
  · omega
theorem itD_rng {vs : List V} {ds xs : List D} {K : PySem.W.Frag} {G F : Hp} (h : RBs K G F vs ds) (e : itD .rng ds = .ok xs) :
    (∃ j, vs = [.int j] ∧ -(2 ^ 62) ≤ j ∧ j < 2 ^ 62 ∧ xs = rngD 0 1 j.toNat) ∨ (∃ i j, vs = [.int i, .int j] ∧ (-(2 ^ 62) ≤ i ∧ i < 2 ^ 62 ∧ -(2 ^ 62) ≤ j ∧ j < 2 ^ 62) ∧ xs = rngD i 1 (j - i).toNat) ∨
    (∃ i j c n, vs = [.int i, .int j, .int c] ∧ RgC i j c n ∧ xs = rngD i c n) := by
  unfold itD at e
  split at e
  · contradiction
  · split at e
    · rename_i hs
      obtain ⟨x, rfl, h1⟩ := h.one
      obtain rfl := h1.int
      cases e
      exact .inl ⟨_, rfl, (small_of hs).1, (small_of hs).2, rfl⟩
    · cases e
  · split at e
    · rename_i hs
      obtain ⟨x, y, rfl, h1, h2⟩ := h.two
      obtain rfl := h1.int; obtain rfl := h2.int
      rw [Bool.and_eq_true] at hs
      cases e
      exact .inr (.inl ⟨_, _, rfl, ⟨(small_of hs.1).1, (small_of hs.1).2, (small_of hs.2).1, (small_of hs.2).2⟩, rfl⟩)
    · cases e
  · split at e
    · rename_i hs
      obtain ⟨x, y, z, rfl, h1, h2, h3⟩ := h.three
      obtain rfl := h1.int; obtain rfl := h2.int; obtain rfl := h3.int
      rw [Bool.and_eq_true, Bool.and_eq_true] at hs
      cases e
      have c1 := of_decide_eq_true hs.1.1
      have c2 := of_decide_eq_true hs.1.2
      refine .inr (.inr ⟨_, _, _, _, rfl, ⟨by omega, by omega, hs.2, ?_⟩, rfl⟩)
      rw [Int.toNat_of_nonneg (rangeSize_nn c1)]
    · cases e
  · contradiction
  · contradiction
  · contradiction
  · cases e
end
end Tg
namespace Tg
open PySem PySem.Spec PyProof.Rows L2
theorem wipe_set_out {i : Nat} {x : Option V} : ∀ {vs : List Nat} {σ : L2.St}, i ∉ vs → wipe (σ.set i x) vs = (wipe σ vs).set i x
  | [], _, _ => rfl
  | v :: vs, σ, h => by
    have h1 : i ≠ v := fun e => h (by rw [e]; exact List.mem_cons_self)
    have h2 : i ∉ vs := fun e => h (List.mem_cons_of_mem _ e)
    show (wipe (σ.set i x) vs).set v none = ((wipe σ vs).set v none).set i x
    rw [wipe_set_out h2, List.set_comm _ _ h1]
theorem wipe_set_in {i : Nat} {x : Option V} : ∀ {vs : List Nat} {σ : L2.St}, i ∈ vs → wipe (σ.set i x) vs = wipe σ vs
  | [], _, h => by simp at h
  | v :: vs, σ, h => by
    show (wipe (σ.set i x) vs).set v none = (wipe σ vs).set v none
    by_cases hi : i ∈ vs
    · rw [wipe_set_in hi]
    · rcases List.mem_cons.mp h with rfl | h
      · rw [wipe_set_out hi, List.set_set]
      · exact absurd h hi
theorem wipe_wipe {vs : List Nat} {σ : L2.St} : ∀ {us : List Nat}, (∀ i ∈ us, i ∈ vs) → wipe (wipe σ us) vs = wipe σ vs
  | [], _ => rfl
  | u :: us, h => by
    show wipe ((wipe σ us).set u none) vs = _
    rw [wipe_set_in (h u List.mem_cons_self), wipe_wipe fun i hi => h i (List.mem_cons_of_mem _ hi)]
def gT (K : PySem.W.Frag) (t : Tg) : TG := fun v σ H Q => ∃ H0 F0 F ρ d ρ', StR K H0 F0 σ H F ρ ∧ Dq K F v d ∧ bindT t d ρ = .ok ρ' ∧
  ∀ σ', StR K H0 F0 σ' H F ρ' → (∀ vs, (∀ i ∈ slotsT t, i ∈ vs) → wipe σ' vs = wipe σ vs) → Q σ' H
def gTs (K : PySem.W.Frag) (ts : List Tg) : TGs := fun us σ H Q => ∃ H0 F0 F ρ ds ρ', StR K H0 F0 σ H F ρ ∧ DqAll K F us ds ∧ bindTs ts ds ρ = .ok ρ' ∧
  ∀ σ', StR K H0 F0 σ' H F ρ' → (∀ vs, (∀ i ∈ slotsTs ts, i ∈ vs) → wipe σ' vs = wipe σ vs) → Q σ' H
theorem pg_weak {X : Cx} {e : Expr} {t t' : TG} (h : PG X e t) (hw : ∀ v σ H Q, t' v σ H Q → t v σ H Q) : PG X e t' := ⟨fun pins s σ H v u Q I r q => h.run pins s σ H v u Q I r (hw v σ H Q q)⟩
theorem pgs_weak {X : Cx} {e : List Expr} {t t' : TGs} (h : PGs X e t) (hw : ∀ v σ H Q, t' v σ H Q → t v σ H Q) : PGs X e t' := ⟨fun pins s σ H v u Q I r q => h.run pins s σ H v u Q I r (hw v σ H Q q)⟩
theorem ckTs_all {T : Tb} {s : Sc} : ∀ {ts : List Tg} {es : List Expr}, ckTs T s ts es = true → es.all nst = true ∧ ts.length = es.length
  | [], es, h => by
    cases es with
    | nil => exact ⟨rfl, rfl⟩
    | cons => simp [ckTs] at h
  | t :: ts, es, h => by
    cases es with
    | nil => simp [ckTs] at h
    | cons e es =>
      simp only [ckTs, Bool.and_eq_true] at h
      obtain ⟨i1, i2⟩ := ckTs_all h.2
      refine ⟨by rw [List.all_cons, h.1.1, i1]; rfl, by rw [List.length_cons, List.length_cons, i2]⟩
theorem bindTs_len : ∀ {ts : List Tg} {ds : List D} {ρ ρ' : En}, bindTs ts ds ρ = .ok ρ' → ts.length = ds.length
  | [], ds, ρ, ρ', h => by
    cases ds with
    | nil => rfl
    | cons => simp [bindTs] at h
  | t :: ts, ds, ρ, ρ', h => by
    cases ds with
    | nil => simp [bindTs] at h
    | cons d ds =>
      simp only [bindTs] at h
      cases e : bindT t d ρ with
      | stuck => rw [e] at h; cases h
      | ex c => rw [e] at h; cases h
      | ok ρ1 =>
        rw [e, bind_ok] at h
        rw [List.length_cons, List.length_cons, bindTs_len h]
mutual
theorem bindT_noex : ∀ {t : Tg} {d : D} {ρ : En} {c : Nat}, bindT t d ρ = .ex c → False
  | .nm i, d, ρ, c, h => by simp [bindT] at h
  | .tp ts, d, ρ, c, h => by
    cases d <;> simp only [bindT] at h <;> first | exact bindTs_noex h | cases h
theorem bindTs_noex : ∀ {ts : List Tg} {ds : List D} {ρ : En} {c : Nat}, bindTs ts ds ρ = .ex c → False
  | [], ds, ρ, c, h => by cases ds <;> simp [bindTs] at h
  | t :: ts, ds, ρ, c, h => by
    cases ds with
    | nil => simp [bindTs] at h
    | cons d ds =>
      simp only [bindTs] at h
      cases e : bindT t d ρ with
      | stuck => rw [e] at h; cases h
      | ex c => exact bindT_noex e
      | ok ρ1 => rw [e, bind_ok] at h; exact bindTs_noex h
end
section
variable {T : Tb} {Φ : Fs} {ev : Nat → Value}
mutual
theorem pgT : ∀ (t : Tg) {w : Wx} {s : Sc} {X : Cx} {e : Expr}, Good T Φ w ev s X → ckT T s t e = true → PG X e (gT X.K t)
  | .nm i, w, s, X, e, G, h => by
    cases e <;> simp [ckT] at h
    rename_i x pos
    unfold ckLoc at h
    simp only [Bool.and_eq_true, Bool.or_eq_true, decide_eq_true_eq] at h
    obtain ⟨h1, h2⟩ := h
    have hi : X.N[i]? = some x := by rw [G.N]; exact h1
    have hl : L2.Loc X.env.scope x := by
      unfold L2.Loc; rw [G.sc]
      rcases h2 with h2 | h2
      · exact .inl h2
      · exact .inr h2.1
    have hf : X.fn x = true ∨ X.env.scope.names.lookup x = some .local := by
      rcases h2 with h2 | h2
      · right; rw [G.sc]; exact h2
      · left; rw [G.fn]; exact h2.2
    refine pg_weak (pg_name (by rw [G.N]; exact G.nd) hi hl hf) fun v σ H Q ⟨H0, F0, F, ρ, d, ρ', R, hd, hb, q⟩ => ?_
    simp only [bindT, M.ok.injEq] at hb
    subst hb
    exact q _ (R.setV i hd) fun vs hv => wipe_set_in (hv i (by simp [slotsT]))
  | .tp ts, w, s, X, e, G, h => by
    cases e <;> simp [ckT] at h
    rename_i es k pos
    obtain ⟨hs, hl⟩ := ckTs_all h
    have hp := pgTs ts G h
    refine ⟨fun pins sh σ H v u Q I r q => ?_⟩
    obtain ⟨H0, F0, F, ρ, d, ρ', R, hd, hb, q⟩ := q
    cases hd <;> simp only [bindT] at hb <;> try (cases hb)
    · rename_i a xs ds h1 h2
      refine (pg_lst (n := es.length) G.calm hp (asg_len hs).1 (asg_len hs).2).run pins sh σ H _ u Q I r ⟨a, xs, rfl, sql_mono R.s h1, ?_, H0, F0, F, ρ, ds, ρ', R, h2, hb, q⟩
      rw [h2.length, ← bindTs_len hb, hl]
    · rename_i a xs ds h1 h2
      refine (pg_tup (n := es.length) G.calm hp (asg_len hs).1 (asg_len hs).2).run pins sh σ H _ u Q I r ⟨a, xs, rfl, sqt_mono R.s h1, ?_, H0, F0, F, ρ, ds, ρ', R, h2, hb, q⟩
      rw [h2.length, ← bindTs_len hb, hl]
theorem pgTs : ∀ (ts : List Tg) {w : Wx} {s : Sc} {X : Cx} {es : List Expr}, Good T Φ w ev s X → ckTs T s ts es = true → PGs X es (gTs X.K ts)
  | [], w, s, X, es, G, h => by
    cases es with
    | cons => simp [ckTs] at h
    | nil =>
      refine pgs_weak pgs_nil fun us σ H Q ⟨H0, F0, F, ρ, ds, ρ', R, hd, hb, q⟩ => ?_
      cases ds with
      | cons => simp [bindTs] at hb
      | nil =>
        cases hd
        simp only [bindTs, M.ok.injEq] at hb
        subst hb
        exact ⟨rfl, q σ R fun _ _ => rfl⟩
  | t :: ts, w, s, X, es, G, h => by
    cases es with
    | nil => simp [ckTs] at h
    | cons e es =>
      simp only [ckTs, Bool.and_eq_true] at h
      refine pgs_weak (pgs_cons (pgT t G h.1.2) (pgTs ts G h.2) (by rw [asg_cons h.1.1, List.map_cons])) fun us σ H Q ⟨H0, F0, F, ρ, ds, ρ', R, hd, hb, q⟩ => ?_
      cases ds with
      | nil => simp [bindTs] at hb
      | cons d ds =>
        cases hd with
        | cons hd1 hd2 =>
          simp only [bindTs] at hb
          cases eb : bindT t d ρ with
          | stuck => rw [eb] at hb; cases hb
          | ex c => rw [eb] at hb; cases hb
          | ok ρ1 =>
            rw [eb, bind_ok] at hb
            refine ⟨_, _, rfl, H0, F0, F, ρ, d, ρ1, R, hd1, eb, fun σ1 R1 w1 => ?_⟩
            refine ⟨H0, F0, F, ρ1, ds, ρ', R1, hd2, hb, fun σ2 R2 w2 => q σ2 R2 fun vs hv => ?_⟩
            rw [w2 vs fun i hi => hv i (by simp [slotsTs, hi]), w1 vs fun i hi => hv i (by simp [slotsTs, hi])]
end
end
def AfT (K : PySem.W.Frag) (w : Wx) (σ : L2.St) (H F : Hp) (r : M D) (Q : Bool → Hp → Prop) : Prop := match r with
  | .ok (.bool b) => ∀ H' F', Gr H F H' F' → Q b H'
  | .ok _ => False
  | .ex c => ∀ H' F', Gr H F H' F' → w c σ H'
  | .stuck => False
def tT (K : PySem.W.Frag) (w : Wx) (Φ : Fs) (m : E) : TT := fun σ H Q => ∃ H0 F0 F ρ, StR K H0 F0 σ H F ρ ∧ AfT K w σ H F (bor ρ m (evE Φ ρ m)) Q
def Snd (T : Tb) (Φ : Fs) (ev : Nat → Value) (m : E) : Prop := ∀ (w : Wx) (s : Sc) (X : Cx) (e : Expr), Good T Φ w ev s X → ckE T m s e = true → PE X e (tE X.K w Φ m) ∧ PT X e (tT X.K w Φ m)
theorem pt_weak {X : Cx} {e : Expr} {t t' : TT} (h : PT X e t) (hw : ∀ σ H Q, t' σ H Q → t σ H Q) : PT X e t' := ⟨fun pins s σ H Q I q => h.run pins s σ H Q I (hw σ H Q q)⟩
section
variable {K : PySem.W.Frag} {w : Wx} {σ : L2.St} {H F : Hp}
theorem AfT.toB {r : M D} {Q : Bool → Hp → Prop} (h : AfT K w σ H F r Q) : AfB K w σ H F r (fun x H1 => ∃ c, x = .bl c ∧ Q c H1) := by
  cases r with
  | ok d =>
    cases d with
    | bool b => exact fun v H' F' g rb => ⟨b, rb.bool, h H' F' g⟩
    | _ => exact h.elim
  | ex c => exact h
  | stuck => exact h
end
section
variable {T : Tb} {Φ : Fs} {ev : Nat → Value} {w : Wx} {s : Sc} {X : Cx}
theorem pt_plain {m : E} {e : Expr} (hB : PE X e (tB X.K w Φ m)) (hp : plainT e = true) : PT X e (tT X.K w Φ m) :=
  pt_weak (pt_val hB (plainT_ok hp)) fun σ H Q ⟨H0, F0, F, ρ, R, a⟩ => ⟨H0, F0, F, ρ, R, a.toB⟩
theorem sndL : ∀ {ms : List E} {es : List Expr}, (∀ m ∈ ms, Snd T Φ ev m) → Good T Φ w ev s X → ckL T ms s es = true → PA X es (tL X.K w Φ ms)
  | [], es, _, G, h => by
    cases es with
    | cons => simp [ckL] at h
    | nil => exact pa_weak pa_nil fun σ H Q ⟨H0, F0, F, ρ, R, a⟩ => (show AfL _ _ _ _ _ (.ok []) Q from by simpa only [evL] using a) _ H F (.refl R.s) .nil
  | m :: ms, es, S, G, h => by
    cases es with
    | nil => simp [ckL] at h
    | cons e es =>
      simp only [ckL, Bool.and_eq_true] at h
      refine pa_weak (pa_cons (S m List.mem_cons_self w s X e G h.1).1 (sndL (fun m hm => S m (List.mem_cons_of_mem _ hm)) G h.2) (star_cons (ckE_nst h.1))) fun σ H Q ⟨H0, F0, F, ρ, R, a⟩ => ?_
      simp only [evL] at a
      refine ⟨H0, F0, F, ρ, R, ?_⟩
      cases e1 : evE Φ ρ m with
      | stuck => rw [e1] at a; exact a
      | ex c => rw [e1] at a; exact a
      | ok b =>
        rw [e1, bind_ok] at a
        intro v H1 F1 g1 rp nw
        obtain ⟨F1', g1', dq⟩ := rp.freeze g1 nw
        refine ⟨H0, F0, F1', ρ, R.grow g1', ?_⟩
        cases e2 : evL Φ ρ ms with
        | stuck => rw [e2] at a; exact a
        | ex c => rw [e2] at a; exact fun H' F' g => a H' F' (g1'.trans g)
        | ok ds =>
          rw [e2, bind_ok] at a
          exact fun vs H2 F2 g2 r => a _ H2 F2 (g1'.trans g2) (.cons (Dq.mono g2.f _ _ dq) r)
theorem sndBs : ∀ {ms : List E} {es : List Expr}, (∀ m ∈ ms, Snd T Φ ev m) → Good T Φ w ev s X → ckL T ms s es = true → PA X es (tBs X.K w Φ ms)
  | [], es, _, G, h => by
    cases es with
    | cons => simp [ckL] at h
    | nil => exact pa_weak pa_nil fun σ H Q ⟨H0, F0, F, ρ, R, a⟩ => (show AfBs _ _ _ _ _ (.ok []) Q from by simpa only [evBs] using a) _ H F (.refl R.s) .nil
  | m :: ms, es, S, G, h => by
    cases es with
    | nil => simp [ckL] at h
    | cons e es =>
      simp only [ckL, Bool.and_eq_true] at h
      refine pa_weak (pa_cons (peB G h.1 (S m List.mem_cons_self w s X e G h.1).1) (sndBs (fun m hm => S m (List.mem_cons_of_mem _ hm)) G h.2) (star_cons (ckE_nst h.1))) fun σ H Q ⟨H0, F0, F, ρ, R, a⟩ => ?_
      simp only [evBs] at a
      refine ⟨H0, F0, F, ρ, R, ?_⟩
      cases e1 : bor ρ m (evE Φ ρ m) with
      | stuck => rw [e1] at a; exact a
      | ex c => rw [e1] at a; exact a
      | ok b =>
        rw [e1, bind_ok] at a
        intro v H1 F1 g1 rb
        refine ⟨H0, F0, F1, ρ, R.grow g1, ?_⟩
        cases e2 : evBs Φ ρ ms with
        | stuck => rw [e2] at a; exact a
        | ex c => rw [e2] at a; exact fun H' F' g => a H' F' (g1.trans g)
        | ok ds =>
          rw [e2, bind_ok] at a
          exact fun vs H2 F2 g2 r => a _ H2 F2 (g1.trans g2) (.cons (rb.mono g2) r)
theorem evL_len : ∀ {ms : List E} {ρ : En} {ds : List D}, evL Φ ρ ms = .ok ds → ds.length = ms.length
  | [], ρ, ds, h => by simp only [evL, M.ok.injEq] at h; subst h; rfl
  | m :: ms, ρ, ds, h => by
    simp only [evL] at h
    cases e1 : evE Φ ρ m with
    | stuck => rw [e1] at h; cases h
    | ex c => rw [e1] at h; cases h
    | ok b =>
      rw [e1, bind_ok] at h
      cases e2 : evL Φ ρ ms with
      | stuck => rw [e2] at h; cases h
      | ex c => rw [e2] at h; cases h
      | ok es =>
        rw [e2, bind_ok] at h
        cases h
        rw [List.length_cons, List.length_cons, evL_len e2]
theorem evBs_len : ∀ {ms : List E} {ρ : En} {ds : List D}, evBs Φ ρ ms = .ok ds → ds.length = ms.length
  | [], ρ, ds, h => by simp only [evBs, M.ok.injEq] at h; subst h; rfl
  | m :: ms, ρ, ds, h => by
    simp only [evBs] at h
    cases e1 : bor ρ m (evE Φ ρ m) with
    | stuck => rw [e1] at h; cases h
    | ex c => rw [e1] at h; cases h
    | ok b =>
      rw [e1, bind_ok] at h
      cases e2 : evBs Φ ρ ms with
      | stuck => rw [e2] at h; cases h
      | ex c => rw [e2] at h; cases h
      | ok es =>
        rw [e2, bind_ok] at h
        cases h
        rw [List.length_cons, List.length_cons, evBs_len e2]
end
end Tg
namespace Tg
open PySem PySem.Spec PyProof.Rows L2
theorem Gr.put {H F H' F' : Hp} (g : Gr H F H' F') {p : Addr} {o : HO} (n : H p = none) (f : F' p = none) : Gr H F (upd H' p o) F' := by
  refine ⟨fun b x e => ?_, g.f, fun b x e => ?_, g.n⟩
  · rw [upd_ne (ne_of_none e n)]; exact g.h _ _ e
  · rw [upd_ne (ne_of_none e f)]; exact g.s _ _ e
theorem RBs.len {K : PySem.W.Frag} {H F : Hp} : ∀ {ds : List D} {vs : List V}, RBs K H F vs ds → vs.length = ds.length
  | _, _, .nil => rfl
  | _, _, .cons _ h => by rw [List.length_cons, List.length_cons, RBs.len h]
theorem rbs_of {K : PySem.W.Frag} {F : Hp} : ∀ {ds : List D} {vs : List V}, DqAll K F vs ds → RBs K F F vs ds
  | [], _, h => by cases h; exact .nil
  | d :: ds, _, h => by
    cases h with
    | cons h1 h2 => exact .cons (.inl h1) (rbs_of h2)
def zH (z : Bool) (H F : Hp) : Hp := match z with | true => H | false => F
theorem zH_s {z : Bool} {H F : Hp} (s : Same F H) : Same F (zH z H F) ∧ Same (zH z H F) H := by
  cases z
  · exact ⟨.refl _, s⟩
  · exact ⟨s, .refl _⟩
def evZ (z : Bool) (Φ : Fs) (ρ : En) (ms : List E) : M (List D) := match z with | true => evBs Φ ρ ms | false => evL Φ ρ ms
def AfZ (z : Bool) (K : PySem.W.Frag) (w : Wx) (σ : L2.St) (H F : Hp) (r : M (List D)) (Q : List V → Hp → Prop) : Prop := match r with
  | .ok ds => ∀ vs H' F', Gr H F H' F' → RBs K (zH z H' F') F' vs ds → Q vs H'
  | .ex c => ∀ H' F', Gr H F H' F' → w c σ H'
  | .stuck => False
def tZ (z : Bool) (K : PySem.W.Frag) (w : Wx) (Φ : Fs) (ms : List E) : TA := fun σ H Q => ∃ H0 F0 F ρ, StR K H0 F0 σ H F ρ ∧ AfZ z K w σ H F (evZ z Φ ρ ms) Q
def AfZ1 (z : Bool) (K : PySem.W.Frag) (w : Wx) (σ : L2.St) (H F : Hp) (r : M (List D)) (Q : VK) : Prop := match r with
  | .ok [d] => ∀ v H' F', Gr H F H' F' → RB K (zH z H' F') F' d v → Q v H'
  | .ok _ => False
  | .ex c => ∀ H' F', Gr H F H' F' → w c σ H'
  | .stuck => False
def tZ1 (z : Bool) (K : PySem.W.Frag) (w : Wx) (Φ : Fs) (m : E) : TE := fun σ H Q => ∃ H0 F0 F ρ, StR K H0 F0 σ H F ρ ∧ AfZ1 z K w σ H F (evZ z Φ ρ [m]) Q
def AfI (z : Bool) (K : PySem.W.Frag) (w : Wx) (σ : L2.St) (H F : Hp) (r : M (List D)) (Q : It → Hp → Prop) : Prop := match r with
  | .ok xs => ∀ J H' F', Gr H F H' F' → ItOk K J xs (zH z H' F') F' → Q J H'
  | .ex c => ∀ H' F', Gr H F H' F' → w c σ H'
  | .stuck => False
def tI (z : Bool) (K : PySem.W.Frag) (w : Wx) (Φ : Fs) (k : ItK) (ms : List E) : TI := fun σ H R => ∃ H0 F0 F ρ, StR K H0 F0 σ H F ρ ∧ AfI z K w σ H F (do let ds ← evZ z Φ ρ ms; itD k ds) R
theorem noex_it {k : ItK} {ds : List D} {c : Nat} : itD k ds ≠ .ex c := by
  intro h
  unfold itD at h
  split at h
  · rename_i d
    cases d <;> simp [seqD] at h
  · split at h <;> cases h
  · split at h <;> cases h
  · split at h <;> cases h
  · cases h
  · cases h
  · rename_i d
    cases d <;> simp [seqD] at h
  · cases h
section
variable {T : Tb} {Φ : Fs} {ev : Nat → Value} {w : Wx} {s : Sc} {X : Cx}
theorem sndZ {z : Bool} {ms : List E} {es : List Expr} (S : ∀ m ∈ ms, Snd T Φ ev m) (G : Good T Φ w ev s X) (h : ckL T ms s es = true) : PA X es (tZ z X.K w Φ ms) := by
  cases z with
  | true => exact sndBs S G h
  | false =>
    refine pa_weak (sndL S G h) fun σ H Q ⟨H0, F0, F, ρ, R, a⟩ => ⟨H0, F0, F, ρ, R, ?_⟩
    change AfZ false _ _ _ _ _ (evL Φ ρ ms) Q at a
    cases e : evL Φ ρ ms with
    | stuck => rw [e] at a; exact a
    | ex c => rw [e] at a; exact a
    | ok ds => rw [e] at a; exact fun vs H' F' g dq => a vs H' F' g (rbs_of dq)
theorem sndZ1 {z : Bool} {m : E} {e : Expr} (S : Snd T Φ ev m) (G : Good T Φ w ev s X) (h : ckE T m s e = true) : PE X e (tZ1 z X.K w Φ m) := by
  cases z with
  | true =>
    refine pe_weak (peB G h (S w s X e G h).1) fun σ H Q ⟨H0, F0, F, ρ, R, a⟩ => ⟨H0, F0, F, ρ, R, ?_⟩
    change AfZ1 true _ _ _ _ _ (evBs Φ ρ [m]) Q at a
    simp only [evBs] at a
    cases e : bor ρ m (evE Φ ρ m) with
    | stuck => rw [e] at a; exact a
    | ex c => rw [e] at a; exact a
    | ok d => rw [e] at a; exact a
  | false =>
    refine pe_weak (S w s X e G h).1 fun σ H Q ⟨H0, F0, F, ρ, R, a⟩ => ⟨H0, F0, F, ρ, R, ?_⟩
    change AfZ1 false _ _ _ _ _ (evL Φ ρ [m]) Q at a
    simp only [evL] at a
    cases e : evE Φ ρ m with
    | stuck => rw [e] at a; exact a
    | ex c => rw [e] at a; exact a
    | ok b =>
      rw [e] at a
      intro v H' F' g rp nw
      obtain ⟨F2, g2, dq⟩ := rp.freeze g nw
      exact a v H' F2 g2 (.inl dq)
theorem ckIt_nset {k : ItK} {es : List E} {e : Expr} (h : ckIt T k es s e = true) : nset e = true := by
  cases k with
  | seq => unfold ckIt ckItP at h; dsimp only at h; rw [Bool.and_eq_true] at h; exact h.1
  | rng => cases e <;> first | rfl | (simp [ckIt, ckItP] at h)
  | zip => cases e <;> first | rfl | (simp [ckIt, ckItP] at h)
  | rev => cases e <;> first | rfl | (simp [ckIt, ckItP] at h)
theorem evZ_len {z : Bool} {ms : List E} {ρ : En} {ds : List D} (h : evZ z Φ ρ ms = .ok ds) : ds.length = ms.length := by
  cases z with
  | true => exact evBs_len h
  | false => exact evL_len h
theorem AfI.args {z : Bool} {K : PySem.W.Frag} {k : ItK} {ms : List E} {σ : L2.St} {H F : Hp} {ρ : En} {R : It → Hp → Prop} {Q : List V → Hp → Prop} (a : AfI z K w σ H F (do let ds ← evZ z Φ ρ ms; itD k ds) R)
    (q : ∀ ds xs vs H' F', ds.length = ms.length → itD k ds = .ok xs → Gr H F H' F' → RBs K (zH z H' F') F' vs ds → (∀ J, ItOk K J xs (zH z H' F') F' → R J H') → Q vs H') : AfZ z K w σ H F (evZ z Φ ρ ms) Q := by
  cases e : evZ z Φ ρ ms with
  | stuck => rw [e] at a; exact a
  | ex c => rw [e] at a; exact a
  | ok ds =>
    rw [e, bind_ok] at a
    intro vs H' F' g rb
    cases e2 : itD k ds with
    | stuck => rw [e2] at a; exact a.elim
    | ex c => exact (noex_it e2).elim
    | ok xs =>
      rw [e2] at a
      exact q ds xs vs H' F' (evZ_len e) e2 g rb fun J hJ => a J H' F' g hJ
theorem sndI {z : Bool} {k : ItK} {es : List E} {e tg : Expr} (S : ∀ m ∈ es, Snd T Φ ev m) (G : Good T Φ w ev s X) (h : ckIt T k es s e = true) (hz : k = .zip → ∃ elts kk p, tg = .Tuple elts kk p) : PI X tg e (tI z X.K w Φ k es) := by
  cases k with
  | seq =>
    unfold ckIt ckItP at h
    dsimp only at h
    rw [Bool.and_eq_true] at h
    obtain ⟨m, rfl⟩ : ∃ m, es = [m] := by
      have := ckL_len h.2
      cases es with
      | nil => simp at this
      | cons m r => cases r with
        | nil => exact ⟨m, rfl⟩
        | cons => simp at this
    have h2 := h.2
    simp only [ckL, Bool.and_eq_true] at h2
    refine pi_weak (pi_seqV (sndZ1 (z := z) (S m List.mem_cons_self) G h2.1)) fun σ H R ⟨H0, F0, F, ρ, R0, a⟩ => ⟨H0, F0, F, ρ, R0, ?_⟩
    cases e1 : evZ z Φ ρ [m] with
    | stuck => rw [e1] at a; exact a
    | ex c => rw [e1] at a; exact a
    | ok ds =>
      rw [e1, bind_ok] at a
      have hl := evZ_len e1
      obtain ⟨d, rfl⟩ : ∃ d, ds = [d] := by
        cases ds with
        | nil => simp at hl
        | cons d r => cases r with
          | nil => exact ⟨d, rfl⟩
          | cons => simp at hl
      intro v H' F' g rb
      cases e2 : itD .seq [d] with
      | stuck => rw [e2] at a; exact a.elim
      | ex c => exact (noex_it e2).elim
      | ok xs =>
        rw [e2] at a
        exact ⟨zH z H' F', F', [d], xs, (zH_s g.s).1, (zH_s g.s).2, .cons rb .nil, e2, fun J hJ => a J H' F' g hJ⟩
  | rng =>
    unfold ckIt ckItP at h
    dsimp only at h
    split at h
    rotate_left
    · cases h
    rename_i x p xs pos
    simp only [Bool.and_eq_true, decide_eq_true_eq] at h
    obtain ⟨⟨⟨⟨rfl, hg⟩, h1⟩, h2⟩, hL⟩ := h
    have hgl := gl_of G hg
    have hm := G.blt "range" (by simp [bltNames])
    have hp := sndZ (z := z) S G hL
    have hlen := ckL_len hL
    have hn := ckL_nst hL
    match xs, h1, h2, hp, hlen, hn with
    | [a1], _, _, hp, hlen, hn =>
      simp only [List.all_cons, List.all_nil, Bool.and_true] at hn
      refine pi_weak (pi_range1 hgl.1 hm hp (by rw [star_cons hn]; rfl)) fun σ H R ⟨H0, F0, F, ρ, R0, a⟩ => ⟨H0, F0, F, ρ, R0, a.args fun ds xs vs H' F' hl e2 g rb q => ?_⟩
      have hv : vs.length = 1 := by rw [rb.len, hl, hlen]; rfl
      rcases itD_rng rb e2 with ⟨j, rfl, b1, b2, rfl⟩ | ⟨i, j, rfl, _⟩ | ⟨i, j, c, n, rfl, _⟩
      · exact ⟨j, rfl, b1, b2, q _ itok_rng⟩
      · simp at hv
      · simp at hv
    | [a1, a2], _, _, hp, hlen, hn =>
      simp only [List.all_cons, List.all_nil, Bool.and_true, Bool.and_eq_true] at hn
      refine pi_weak (pi_range2 hgl.1 hm hp (by rw [star_cons hn.1, star_cons hn.2]; rfl) (by rw [star_cons hn.2]; rfl)) fun σ H R ⟨H0, F0, F, ρ, R0, a⟩ => ⟨H0, F0, F, ρ, R0, a.args fun ds xs vs H' F' hl e2 g rb q => ?_⟩
      have hv : vs.length = 2 := by rw [rb.len, hl, hlen]; rfl
      rcases itD_rng rb e2 with ⟨j, rfl, b1, b2, rfl⟩ | ⟨i, j, rfl, b, rfl⟩ | ⟨i, j, c, n, rfl, _⟩
      · simp at hv
      · exact ⟨i, j, rfl, b, q _ itok_rng⟩
      · simp at hv
    | [a1, a2, a3], _, _, hp, hlen, hn =>
      simp only [List.all_cons, List.all_nil, Bool.and_true, Bool.and_eq_true] at hn
      refine pi_weak (pi_range3 hgl.1 hm hp (star_cons hn.1) (star_any (by simp [hn.2.1, hn.2.2]))) fun σ H R ⟨H0, F0, F, ρ, R0, a⟩ => ⟨H0, F0, F, ρ, R0, a.args fun ds xs vs H' F' hl e2 g rb q => ?_⟩
      have hv : vs.length = 3 := by rw [rb.len, hl, hlen]; rfl
      rcases itD_rng rb e2 with ⟨j, rfl, b1, b2, rfl⟩ | ⟨i, j, rfl, b, rfl⟩ | ⟨i, j, c, n, rfl, b, rfl⟩
      · simp at hv
      · simp at hv
      · exact ⟨i, j, c, n, rfl, b, q _ itok_rngC⟩
  | zip =>
    obtain ⟨elts, kk, tp, rfl⟩ := hz rfl
    unfold ckIt ckItP at h
    dsimp only at h
    split at h
    rotate_left
    · cases h
    rename_i x p xs pos
    simp only [Bool.and_eq_true, decide_eq_true_eq] at h
    obtain ⟨⟨⟨rfl, hg⟩, h1⟩, hL⟩ := h
    have hgl := gl_of G hg
    have hm := G.blt "zip" (by simp [bltNames])
    have hp := sndZ (z := z) S G hL
    have hn := ckL_nst hL
    match xs, h1, hp, hn with
    | [a1, a2], _, hp, hn =>
      simp only [List.all_cons, List.all_nil, Bool.and_true, Bool.and_eq_true] at hn
      refine pi_weak (RZ.pi_zipA hgl.1 hm hp (star_cons hn.1) (star_any (by simp [hn.2]))) fun σ H R ⟨H0, F0, F, ρ, R0, a⟩ => ⟨H0, F0, F, ρ, R0, a.args fun ds xs vs H' F' hl e2 g rb q => ?_⟩
      unfold itD at e2
      split at e2 <;> try (first | contradiction | (split at e2 <;> contradiction))
      · obtain ⟨x, y, rfl, r1, r2⟩ := rb.two
        cases e2
        obtain ⟨l, vs, rfl, h1, h2⟩ := r1.list (zH_s g.s).1
        obtain ⟨l', vs', rfl, h1', h2'⟩ := r2.list (zH_s g.s).1
        exact ⟨l, l', vs, vs', rfl, .inl ⟨sql_mono (zH_s g.s).2 h1, sql_mono (zH_s g.s).2 h1', q _ (itok_zipL h1 h2 h1' h2')⟩⟩
      · obtain ⟨x, y, rfl, r1, r2⟩ := rb.two
        cases e2
        obtain ⟨l, vs, rfl, h1, h2⟩ := r1.tuple (zH_s g.s).1
        obtain ⟨l', vs', rfl, h1', h2'⟩ := r2.tuple (zH_s g.s).1
        exact ⟨l, l', vs, vs', rfl, .inr ⟨sqt_mono g.s h1, sqt_mono g.s h1', q _ (itok_zipT h1 h2 h1' h2')⟩⟩
  | rev =>
    unfold ckIt ckItP at h
    dsimp only at h
    split at h
    rotate_left
    · cases h
    rename_i x p xs pos
    simp only [Bool.and_eq_true, decide_eq_true_eq] at h
    obtain ⟨⟨⟨rfl, hg⟩, h1⟩, hL⟩ := h
    have hgl := gl_of G hg
    have hm := G.blt "reversed" (by simp [bltNames])
    have hn := ckL_nst hL
    have hlen := ckL_len hL
    match xs, es, h1, hL, hn, hlen, S with
    | [a1], [m], _, hL, hn, _, S =>
      simp only [List.all_cons, List.all_nil, Bool.and_true] at hn
      simp only [ckL, Bool.and_eq_true] at hL
      refine pi_weak (RT.pi_revA hgl.1 hm (sndZ1 (z := z) (S m List.mem_cons_self) G hL.1) (star_cons hn)) fun σ H R ⟨H0, F0, F, ρ, R0, a⟩ => ⟨H0, F0, F, ρ, R0, ?_⟩
      cases e1 : evZ z Φ ρ [m] with
      | stuck => rw [e1] at a; exact a
      | ex c => rw [e1] at a; exact a
      | ok ds =>
        rw [e1, bind_ok] at a
        have hl := evZ_len e1
        obtain ⟨d, rfl⟩ : ∃ d, ds = [d] := by
          cases ds with
          | nil => simp at hl
          | cons d r => cases r with
            | nil => exact ⟨d, rfl⟩
            | cons => simp at hl
        intro v H' F' g rb
        simp only [itD] at a
        cases e2 : seqD d with
        | stuck => rw [e2] at a; exact a.elim
        | ex c => cases d <;> simp [seqD] at e2
        | ok xs =>
          rw [e2, bind_ok] at a
          rcases seqD_ok e2 with rfl | rfl
          · obtain ⟨l, vs, rfl, h1, h2⟩ := rb.list (zH_s g.s).1
            exact ⟨l, vs, rfl, .inl ⟨sql_mono (zH_s g.s).2 h1, a _ H' F' g (itok_revL h1 h2)⟩⟩
          · obtain ⟨l, vs, rfl, h1, h2⟩ := rb.tuple (zH_s g.s).1
            exact ⟨l, vs, rfl, .inr ⟨sqt_mono g.s h1, a _ H' F' g (itok_revT h1 h2)⟩⟩
end
end Tg
namespace Tg
open PySem PySem.Spec PyProof.Rows L2
section
variable {T : Tb} {Φ : Fs} {ev : Nat → Value} {w : Wx} {s : Sc} {X : Cx}
theorem lcD_noex {f : D → M (Option D)} {c : Nat} : ∀ {xs : List D}, lcD f xs ≠ .ex c
  | [], h => by simp [lcD] at h
  | d :: ds, h => by
    simp only [lcD] at h
    split at h
    · split at h <;> cases h
    · exact lcD_noex h
    · cases h
def condD : List D → M D
  | [] => .ok (.bool true)
  | [d] => .ok d
  | _ => .stuck
def tC (K : PySem.W.Frag) (Φ : Fs) (c : List E) : TT := fun σ H Q => ∃ H0 F0 F ρ, StR K H0 F0 σ H F ρ ∧ AfT K w0 σ H F (do let cs ← evBs Φ ρ c; condD cs) Q
theorem pts_weak {X : Cx} {e : List Expr} {t t' : TT} (h : PTs X e t) (hw : ∀ σ H Q, t' σ H Q → t σ H Q) : PTs X e t' := ⟨fun pins s σ H Q I q => h.run pins s σ H Q I (hw σ H Q q)⟩
theorem sndC {c : List E} {ifs : List Expr} (S : ∀ m ∈ c, Snd T Φ ev m) (G : Good T Φ w0 ev s X) (h : ckL T c s ifs = true) (h1 : ifs.length ≤ 1) : PTs X ifs (tC X.K Φ c) := by
  cases ifs with
  | nil =>
    cases c with
    | cons => simp [ckL] at h
    | nil => exact pts_weak pts_nil fun σ H Q ⟨H0, F0, F, ρ, R, a⟩ => (show AfT _ _ _ _ _ (.ok (.bool true)) Q from by simpa only [evBs, bind_ok, condD] using a) H F (.refl R.s)
  | cons e r =>
    cases r with
    | cons => simp at h1
    | nil =>
      cases c with
      | nil => simp [ckL] at h
      | cons m ms =>
        cases ms with
        | cons => simp [ckL] at h
        | nil =>
          simp only [ckL, Bool.and_eq_true] at h
          refine pts_weak (pts_one (S m List.mem_cons_self w0 s X e G h.1).2) fun σ H Q ⟨H0, F0, F, ρ, R, a⟩ => ⟨H0, F0, F, ρ, R, ?_⟩
          simp only [evBs] at a
          cases e1 : bor ρ m (evE Φ ρ m) with
          | stuck => rw [e1] at a; exact a
          | ex c => rw [e1] at a; exact a
          | ok d => rw [e1] at a; exact a
def lcF (Φ : Fs) (ρ : En) (e : E) (t : Tg) (c : List E) (own : List Nat) (d : D) : M (Option D) := do
  let ρ1 ← bindT t d (wipeN ρ own)
  let cs ← evBs Φ ρ1 c
  turnD cs (evE Φ ρ1 e)
theorem lcF_ok {ρ : En} {e : E} {t : Tg} {c : List E} {own : List Nat} {d : D} {o : Option D} (h : lcF Φ ρ e t c own d = .ok o) :
    ∃ ρ1 b, bindT t d (wipeN ρ own) = .ok ρ1 ∧ (do let cs ← evBs Φ ρ1 c; condD cs) = .ok (.bool b) ∧ (b = true → ∃ x, evE Φ ρ1 e = .ok x ∧ o = some x.d) ∧ (b = false → o = none) := by
  unfold lcF at h
  cases e1 : bindT t d (wipeN ρ own) with
  | stuck => rw [e1] at h; cases h
  | ex c => rw [e1] at h; cases h
  | ok ρ1 =>
    rw [e1, bind_ok] at h
    cases e2 : evBs Φ ρ1 c with
    | stuck => rw [e2] at h; cases h
    | ex c => rw [e2] at h; cases h
    | ok cs =>
      rw [e2, bind_ok] at h
      unfold turnD at h
      split at h
      · refine ⟨ρ1, true, rfl, by rw [e2]; rfl, fun _ => ?_, fun z => (nomatch z)⟩
        cases e3 : evE Φ ρ1 e with
        | stuck => rw [e3] at h; cases h
        | ex c => rw [e3] at h; cases h
        | ok b => rw [e3, bind_ok] at h; cases h; exact ⟨b, rfl, rfl⟩
      · refine ⟨ρ1, true, rfl, by rw [e2]; rfl, fun _ => ?_, fun z => (nomatch z)⟩
        cases e3 : evE Φ ρ1 e with
        | stuck => rw [e3] at h; cases h
        | ex c => rw [e3] at h; cases h
        | ok b => rw [e3, bind_ok] at h; cases h; exact ⟨b, rfl, rfl⟩
      · cases h
        exact ⟨ρ1, false, rfl, by rw [e2]; rfl, fun z => (nomatch z), fun _ => rfl⟩
      · cases h
theorem lcD_cons {f : D → M (Option D)} {d : D} {ds r : List D} (h : lcD f (d :: ds) = .ok r) : ∃ o r', f d = .ok o ∧ lcD f ds = .ok r' ∧ r = (match o with | some x => x :: r' | none => r') := by
  simp only [lcD] at h
  split at h
  · rename_i x e
    split at h
    · rename_i r' e'
      cases h
      exact ⟨some x, r', e, e', rfl⟩
    · cases h
  · rename_i e
    exact ⟨none, r, e, h, rfl⟩
  · cases h
theorem tLc_of {K : PySem.W.Frag} {m : E} {t : Tg} {k : ItK} {es c : List E} {own : List Nat} {σ : L2.St} {H : Hp} {Q : VK} (ho : ∀ i ∈ slotsT t, i ∈ own)
    (h : tE K w Φ (.lc m t k es c own) σ H Q) : tLc (tI true K w Φ k es) (gT K t) (tC K Φ c) (tE K w0 Φ m) own σ H Q := by
  obtain ⟨H0, F0, F, ρ, R0, a⟩ := h
  refine ⟨H0, F0, F, ρ, R0, ?_⟩
  have a : AfE K w σ H F (do let ds ← evBs Φ ρ es; let xs ← itD k ds; if lineOk xs.length then (do let r ← lcD (lcF Φ ρ m t c own) xs; .ok (.own r)) else .stuck) Q := by
    simp only [evE] at a
    exact a
  change AfI true K w σ H F (do let ds ← evBs Φ ρ es; itD k ds) _
  cases e1 : evBs Φ ρ es with
  | stuck => rw [e1] at a; exact a
  | ex c => rw [e1] at a; exact a
  | ok ds =>
    rw [e1, bind_ok] at a
    rw [bind_ok]
    cases e2 : itD k ds with
    | stuck => rw [e2] at a; exact a
    | ex c => exact (noex_it e2).elim
    | ok xs =>
      rw [e2, bind_ok] at a
      split at a
      rotate_left
      · exact a.elim
      rename_i hline
      have hline := line_ok hline
      cases e3 : lcD (lcF Φ ρ m t c own) xs with
      | stuck => rw [e3] at a; exact a.elim
      | ex c => exact (lcD_noex e3).elim
      | ok r =>
        rw [e3, bind_ok] at a
        intro J H1 F1 g1 hIt Dd hD
        refine ⟨fun i mm H2 => mm = xs.length - i ∧ i ≤ xs.length ∧ ∃ F2 acc rs rest, Gr H1 F1 H2 F2 ∧ F2 Dd = none ∧ H2 Dd = some (.lst acc) ∧ DqAll K F2 acc rs ∧ rs.length ≤ i ∧ lcD (lcF Φ ρ m t c own) (xs.drop i) = .ok rest ∧ rs ++ rest = r,
          ⟨xs.length, by simp, Nat.zero_le _, F1, [], [], r, .mine g1.s hD, g1.s.free hD, upd_same, .nil, Nat.le_refl _, e3, rfl⟩, ?_⟩
        rintro i mm H2 ⟨rfl, hi, F2, acc, rs, rest, g2, fD, hD2, dqs, hlen, erest, er⟩
        have hit := hIt i H2 F2 g2.h g2.f g2.s
        by_cases hlt : i < xs.length
        · have ed : xs.drop i = xs[i] :: xs.drop (i + 1) := (List.getElem_cons_drop hlt).symm
          rw [ed] at erest
          obtain ⟨o, rest', ef, erest', eo⟩ := lcD_cons erest
          obtain ⟨ρ1, b, eb, ec, ht, hf⟩ := lcF_ok ef
          obtain ⟨hgo, hy⟩ := hit.1 xs[i] (List.getElem?_eq_getElem hlt)
          refine .inr ⟨hgo, fun H' => ∃ F2 acc rs rest, Gr H1 F1 H' F2 ∧ F2 Dd = none ∧ H' Dd = some (.lst acc) ∧ DqAll K F2 acc rs ∧ rs.length ≤ i + 1 ∧ lcD (lcF Φ ρ m t c own) (xs.drop (i + 1)) = .ok rest ∧ rs ++ rest = r,
            fun H' q => ⟨xs.length - (i + 1), by omega, rfl, hlt, q⟩, fun x H3 y => ?_⟩
          obtain ⟨F3, g3, dq⟩ := hy x H3 y
          refine ⟨H0, F0, F3, wipeN ρ own, xs[i], ρ1, (((R0.grow g1).grow g2).grow g3).wipe own, dq, eb, fun σ' R' w' => ⟨?_, ?_⟩⟩
          · rw [w' own ho, wipe_wipe fun i hi => hi]
          refine ⟨H0, F0, F3, ρ1, R', ?_⟩
          rw [ec]
          intro H4 F4 g4
          cases b with
          | false =>
            rw [if_neg Bool.false_ne_true]
            have := hf rfl
            subst this
            simp only at eo
            subst eo
            have g := g3.trans g4
            exact ⟨F4, acc, rs, rest, g2.trans g, g.n Dd (by rw [hD2]; exact fun z => nomatch z) fD, g.h _ _ hD2, DqAll.mono g.f _ _ dqs, by omega, erest', er⟩
          | true =>
            rw [if_pos rfl]
            obtain ⟨xb, ex, eo2⟩ := ht rfl
            subst eo2
            simp only at eo
            refine ⟨H0, F0, F4, ρ1, R'.grow g4, ?_⟩
            rw [ex]
            intro v H5 F5 g5 rp nw
            obtain ⟨F6, g6, dq6⟩ := rp.freeze g5 nw
            have g := (g3.trans g4).trans g6
            have n6 : F6 Dd = none := g.n Dd (by rw [hD2]; exact fun z => nomatch z) fD
            refine ⟨acc, g.h _ _ hD2, by rw [dqs.length]; omega, F6, acc ++ [v], rs ++ [xb.d], rest', (g2.trans g).put hD n6, n6, upd_same, (DqAll.mono g.f _ _ dqs).app (.cons dq6 .nil), by rw [List.length_append, List.length_singleton]; omega, erest', ?_⟩
            rw [← er, eo, List.append_assoc]; rfl
        · have ei : i = xs.length := by omega
          refine .inl ⟨hit.2 ei, ?_⟩
          subst ei
          rw [List.drop_length] at erest
          simp only [lcD, M.ok.injEq] at erest
          subst erest
          rw [List.append_nil] at er
          subst er
          exact a (.ref Dd) H2 F2 (g1.trans g2) ⟨Dd, acc, rfl, hD2, fD, dqs⟩ ⟨Dd, rfl, g1.h.free hD⟩
theorem snd_lcP {m : E} {t : Tg} {k : ItK} {es c : List E} {own : List Nat} (S1 : Snd T Φ ev m) (S2 : ∀ x ∈ es, Snd T Φ ev x) (S3 : ∀ x ∈ c, Snd T Φ ev x) {e : Expr} (G : Good T Φ w ev s X) (h : ckE T (.lc m t k es c own) s e = true) :
    ∃ elt tg iter ifs scope pos, e = .ListComp elt [⟨tg, iter, ifs, 0⟩] scope pos ∧ PI X tg iter (tI true X.K w Φ k es) ∧ BlkOk X.N X.env.scope scope (ownOf T own) ∧
      (∀ (s : Shared) (H : Hp) (C : Addr) (cl : List (Str × Addr)) (fp : List Addr), PG (X.blk s H scope (compEnvC scope cl C X.env) fp) tg (gT X.K t)) ∧
      (∀ (s : Shared) (H : Hp) (C : Addr) (cl : List (Str × Addr)) (fp : List Addr), PTs (X.blk s H scope (compEnvC scope cl C X.env) fp) ifs (tC X.K Φ c)) ∧
      (∀ (s : Shared) (H : Hp) (C : Addr) (cl : List (Str × Addr)) (fp : List Addr), PE (X.blk s H scope (compEnvC scope cl C X.env) fp) elt (tE X.K w0 Φ m)) ∧
      nset iter = true ∧ (ownOf T own).map (·.2) = own ∧ ∀ i ∈ slotsT t, i ∈ own := by
  unfold ckE at h
  split at h
  rotate_left
  · cases h
  rename_i elt tg iter ifs scope pos
  simp only [Bool.and_eq_true, decide_eq_true_eq] at h
  obtain ⟨⟨⟨⟨⟨⟨⟨h2, h3⟩, h4⟩, h5⟩, h6⟩, h7⟩, h8⟩, h9⟩ := h
  refine ⟨elt, tg, iter, ifs, scope, pos, rfl, sndI S2 G h3 (fun e => ?_), ?_, fun sh H C cl fp => pgT t G.blk h6, fun sh H C cl fp => sndC S3 G.blk h8 h7, fun sh H C cl fp => (S1 w0 _ _ elt G.blk h9).1, ckIt_nset h3, ownOf_snd T own, fun i hi => ?_⟩
  · subst e
    cases tg <;> simp at h4
    exact ⟨_, _, _, rfl⟩
  · rw [G.N, G.sc]; exact blkOk_by h2
  · have := List.all_eq_true.mp h5 i hi
    simpa using this
theorem snd_lc {m : E} {t : Tg} {k : ItK} {es c : List E} {own : List Nat} (S1 : Snd T Φ ev m) (S2 : ∀ x ∈ es, Snd T Φ ev x) (S3 : ∀ x ∈ c, Snd T Φ ev x) {e : Expr} (G : Good T Φ w ev s X) (h : ckE T (.lc m t k es c own) s e = true) :
    PE X e (tE X.K w Φ (.lc m t k es c own)) := by
  obtain ⟨elt, tg, iter, ifs, scope, pos, rfl, hi, ok, hg, ht, he, hn, ho, hs⟩ := snd_lcP S1 S2 S3 G h
  refine pe_weak (pe_lc G.calm (by rw [G.N]; exact G.nd) hi ok hg ht he (nset_fold hn)) fun σ H Q q => ?_
  rw [ho]
  exact tLc_of hs q
end
end Tg
namespace Tg
open PySem PySem.Spec PyProof.Rows L2
section
variable {K : PySem.W.Frag} {w : Wx} {σ : L2.St} {H F : Hp}
theorem AfE.flat {d : D} {v : V} {Q : VK} (a : AfE K w σ H F (.ok (.val d)) Q) (s : Same F H) (h : Dq K F v d) : Q v H := a v H F (.refl s) h trivial
theorem AfV.ofE {H' F' : Hp} {r : M B} {Q : VK} (g : Gr H F H' F') (hr : ∀ c, r ≠ .ex c) (a : AfE K w σ H F r Q) : AfV K H' F' r Q := by
  cases r with
  | stuck => exact a
  | ex c => exact (hr c rfl).elim
  | ok b => exact fun v H2 F2 g2 rp nw => a v H2 F2 (g.trans g2) rp (nw.back g.h)
end
theorem pw_of {X : Cx} {op : BoolOp} {xs : List Expr} {p : Pos} {t : TT} (h : PT X (.BoolOp op xs p) t) : PW X (.BoolOp op xs p) t := ⟨fun _ pins s σ H Q I q => h.run pins s σ H Q I q⟩
section
variable {T : Tb} {Φ : Fs} {ev : Nat → Value}
theorem snd_plain {m : E} (hp : ∀ s e, ckE T m s e = true → plainT e = true) (h : ∀ (w : Wx) (s : Sc) (X : Cx) (e : Expr), Good T Φ w ev s X → ckE T m s e = true → PE X e (tE X.K w Φ m)) : Snd T Φ ev m :=
  fun w s X e G hk => ⟨h w s X e G hk, pt_plain (peB G hk (h w s X e G hk)) (hp s e hk)⟩
theorem snd_var (i : Nat) : Snd T Φ ev (.var i) := snd_plain (fun s e h => by cases e <;> first | rfl | simp [ckE] at h) fun w s X e G h => by
  cases e <;> simp [ckE] at h
  exact pe_varE G h
theorem snd_con (d : D) : Snd T Φ ev (.con d) := snd_plain (fun s e h => by cases e <;> first | rfl | simp [ckE] at h) fun w s X e G h => by
  cases e <;> simp [ckE] at h
  rename_i c j pos
  have fin : ∀ {v : V} {σ : L2.St} {H : Hp} {Q : VK}, (∀ F, Dq X.K F v d) → tE X.K w Φ (.con d) σ H Q → Q v H := fun hd ⟨H0, F0, F, ρ, R, a⟩ => (show AfE X.K w _ _ F (.ok (.val d)) _ from by simpa only [evE] using a).flat R.s (hd F)
  cases d <;> cases c <;> simp [ckC] at h
  · exact pe_weak pe_non fun σ H Q q => fin (fun F => .non) q
  · subst h; exact pe_weak pe_bl fun σ H Q q => fin (fun F => .bl _) q
  · subst h; exact pe_weak pe_int fun σ H Q q => fin (fun F => .int _) q
  · subst h; exact pe_weak pe_str fun σ H Q q => fin (fun F => .str _) q
theorem snd_glob (k : Nat) (d : D) : Snd T Φ ev (.glob k d) := snd_plain (fun s e h => by cases e <;> first | rfl | simp [ckE] at h) fun w s X e G h => by
  cases e <;> simp only [ckE] at h <;> try (cases h)
  rename_i x pos
  rw [Bool.and_eq_true] at h
  obtain ⟨h1, h2⟩ := h
  split at h2
  · rename_i p hp
    rw [Bool.and_eq_true] at h2
    have e1 : p.1 = x := of_decide_eq_true h2.1
    have e2 := eqD_eq h2.2
    obtain ⟨v, u, hm, r, hd⟩ := G.con k x d (by rw [hp, ← e1, ← e2])
    exact pe_weak (pe_glob (gl_of G h1).1 hm r (gl_of G h1).2) fun σ H Q ⟨H0, F0, F, ρ, R, a⟩ => (show AfE X.K w _ _ F (.ok (.val d)) _ from by simpa only [evE] using a).flat R.s (hd F)
  · cases h2
theorem line_small {n : Nat} (h : n < 1000) : n ≤ sizeLine := by rw [sizeLine_eq]; omega
theorem snd_tup {es : List E} (S : ∀ m ∈ es, Snd T Φ ev m) : Snd T Φ ev (.tup es) := snd_plain (fun s e h => by cases e <;> first | rfl | simp [ckE] at h) fun w s X e G h => by
  cases e <;> simp only [ckE] at h <;> try (cases h)
  rename_i xs k pos
  rw [Bool.and_eq_true] at h
  refine pe_weak (pe_tup (sndL S G h.2)) fun σ H Q ⟨H0, F0, F, ρ, R, a⟩ => ⟨H0, F0, F, ρ, R, ?_⟩
  simp only [evE] at a
  cases e1 : evL Φ ρ es with
  | stuck => rw [e1] at a; exact a
  | ex c => rw [e1] at a; exact a
  | ok ds =>
    rw [e1, bind_ok] at a
    intro vs H1 F1 g1 dq
    refine ⟨by rw [dq.length, evL_len e1]; exact line_small (of_decide_eq_true h.1), fun p hp => ?_⟩
    exact a _ _ _ (g1.trans (.lay g1.s hp)) (.tup (.of upd_same) (DqAll.mono (same_new (g1.s.free hp)) _ _ dq)) trivial
theorem snd_lst {es : List E} (S : ∀ m ∈ es, Snd T Φ ev m) : Snd T Φ ev (.lst es) := snd_plain (fun s e h => by cases e <;> first | rfl | simp [ckE] at h) fun w s X e G h => by
  cases e <;> simp only [ckE] at h <;> try (cases h)
  rename_i xs pos
  rw [Bool.and_eq_true] at h
  refine pe_weak (pe_lst (sndL S G h.2)) fun σ H Q ⟨H0, F0, F, ρ, R, a⟩ => ⟨H0, F0, F, ρ, R, ?_⟩
  simp only [evE] at a
  cases e1 : evL Φ ρ es with
  | stuck => rw [e1] at a; exact a
  | ex c => rw [e1] at a; exact a
  | ok ds =>
    rw [e1, bind_ok] at a
    intro vs H1 F1 g1 dq
    refine ⟨by rw [dq.length, evL_len e1]; exact line_small (of_decide_eq_true h.1), fun p hp => ?_⟩
    exact a _ _ _ (g1.trans (.mine g1.s hp)) ⟨p, vs, rfl, upd_same, g1.s.free hp, dq⟩ ⟨p, rfl, g1.h.free hp⟩
theorem snd_rep {es : List E} {b : E} (S : ∀ m ∈ es, Snd T Φ ev m) (Sb : Snd T Φ ev b) : Snd T Φ ev (.rep es b) := snd_plain (fun s e h => by unfold ckE at h; split at h <;> first | rfl | cases h) fun w s X e G h => by
  unfold ckE at h
  split at h
  rotate_left
  · cases h
  rename_i xs p0 y pos
  simp only [Bool.and_eq_true] at h
  refine pe_weak (pe_op op_repD (pe_lst (sndL S G h.1.2)) (peB G h.2 (Sb w s X y G h.2).1)) fun σ H Q ⟨H0, F0, F, ρ, R, a⟩ => ?_
  simp only [evE] at a
  refine ⟨H0, F0, F, ρ, R, ?_⟩
  cases e1 : evL Φ ρ es with
  | stuck => rw [e1] at a; exact a
  | ex c => rw [e1] at a; exact a
  | ok ds =>
    rw [e1, bind_ok] at a
    intro vs H1 F1 g1 dq
    refine ⟨by rw [dq.length, evL_len e1]; exact line_small (of_decide_eq_true h.1.1), fun p hp => ?_⟩
    have g1' := g1.trans (.mine (o := .lst vs) g1.s hp)
    refine ⟨H0, F0, F1, ρ, R.grow g1', ?_⟩
    cases e2 : bor ρ b (evE Φ ρ b) with
    | stuck => rw [e2] at a; exact a
    | ex c => rw [e2] at a; exact fun H' F' g => a H' F' (g1'.trans g)
    | ok d =>
      rw [e2, bind_ok] at a
      intro v H2 F2 g2 rb
      exact ⟨F2, p, vs, ds, d, g2.s, rfl, g2.h _ _ upd_same, DqAll.mono g2.f _ _ dq, rb, AfV.ofE (g1'.trans g2) (fun c => noex_rep) a⟩
theorem opB_op {o : BOp} {p : Operator} (h : opB o p = true) : p = o.op := by cases o <;> cases p <;> first | rfl | cases h
theorem opC_op {o : COp} {p : CmpOp} (h : opC o p = true) : p = o.op := by cases o <;> cases p <;> first | rfl | cases h
theorem snd_bop {o : BOp} {a b : E} (Sa : Snd T Φ ev a) (Sb : Snd T Φ ev b) : Snd T Φ ev (.bop o a b) := snd_plain (fun s e h => by cases e <;> first | rfl | simp [ckE] at h) fun w s X e G h => by
  cases e <;> simp only [ckE] at h <;> try (cases h)
  rename_i x p y pos
  simp only [Bool.and_eq_true] at h
  rw [opB_op h.1.1]
  refine pe_weak (pe_op (op_bop o) (peB G h.1.2 (Sa w s X x G h.1.2).1) (peB G h.2 (Sb w s X y G h.2).1)) fun σ H Q ⟨H0, F0, F, ρ, R, q⟩ => ?_
  exact two_r2 (fun _ _ _ => noex_bop) R (by simpa only [evE] using q)
theorem snd_cmp {o : COp} {a b : E} (Sa : Snd T Φ ev a) (Sb : Snd T Φ ev b) : Snd T Φ ev (.cmp o a b) := fun w s X e G h => by
  unfold ckE at h
  split at h
  rotate_left
  · cases h
  rename_i x p y pos
  simp only [Bool.and_eq_true] at h
  obtain ⟨⟨⟨h1, h2⟩, h3⟩, h4⟩ := h
  rw [opC_op h1]
  have pa := peB G h3 (Sa w s X x G h3).1
  have pb := peB G h4 (Sb w s X y G h4).1
  refine ⟨pe_weak (pe_cmpR (op_cmp G.units o) pa pb (nset_mark h2)) fun σ H Q ⟨H0, F0, F, ρ, R, q⟩ => ?_, pt_weak (pt_cmpR (op_cmp G.units o) pa pb (nset_mark h2)) fun σ H Q ⟨H0, F0, F, ρ, R, q⟩ => ?_⟩
  · exact two_r2 (fun _ _ _ => noex_cmp) R (by simpa only [evE] using q)
  · rw [bor_ne (m := .cmp o a b) (fun i z => by cases z)] at q
    exact two_r2 (fun _ _ _ => noex_cmp) R (by simpa only [evE] using q.toB.toE)
theorem snd_ix {a b : E} (Sa : Snd T Φ ev a) (Sb : Snd T Φ ev b) : Snd T Φ ev (.ix a b) := snd_plain (fun s e h => by cases e <;> first | rfl | simp [ckE] at h) fun w s X e G h => by
  cases e <;> simp only [ckE] at h <;> try (cases h)
  rename_i x y pos
  simp only [Bool.and_eq_true] at h
  refine pe_weak (pe_ix ix_all (peB G h.1.2 (Sa w s X x G h.1.2).1) (peB G h.2 (Sb w s X y G h.2).1) (plainIx_ok h.1.1)) fun σ H Q ⟨H0, F0, F, ρ, R, q⟩ => ?_
  exact two_r2 (fun _ _ _ => noex_ix) R (by simpa only [evE] using q)
theorem snd_neg {a : E} (Sa : Snd T Φ ev a) : Snd T Φ ev (.neg a) := fun w s X e G h => by
  unfold ckE at h
  split at h
  rotate_left
  · cases h
  rename_i x pos
  have key : PE X (.UnaryOp .USub x pos) (tE X.K w Φ (.neg a)) := by
    refine pe_weak (pe_un un_neg (peB G h (Sa w s X x G h).1)) fun σ H Q ⟨H0, F0, F, ρ, R, q⟩ => ⟨H0, F0, F, ρ, R, ?_⟩
    simp only [evE] at q
    cases e1 : bor ρ a (evE Φ ρ a) with
    | stuck => rw [e1] at q; exact q
    | ex c => rw [e1] at q; exact q
    | ok d =>
      rw [e1, bind_ok] at q
      intro v H1 F1 g1 rb
      unfold negD at q
      split at q
      · obtain rfl := rb.int
        exact ⟨_, rfl, q _ _ _ g1 (.int _) trivial⟩
      · exact q.elim
  refine ⟨key, ?_⟩
  exact pt_weak (pt_val (peB G (by unfold ckE; exact h) key) (fun _ => rfl)) fun σ H Q ⟨H0, F0, F, ρ, R, a⟩ => ⟨H0, F0, F, ρ, R, a.toB⟩
theorem snd_not {a : E} (Sa : Snd T Φ ev a) : Snd T Φ ev (.not a) := fun w s X e G h => by
  unfold ckE at h
  split at h
  rotate_left
  · cases h
  rename_i x pos
  refine ⟨pe_weak (pe_not (peB G h (Sa w s X x G h).1)) fun σ H Q ⟨H0, F0, F, ρ, R, q⟩ => ⟨H0, F0, F, ρ, R, ?_⟩, pt_weak (pt_not (Sa w s X x G h).2) fun σ H Q ⟨H0, F0, F, ρ, R, q⟩ => ⟨H0, F0, F, ρ, R, ?_⟩⟩
  · simp only [evE] at q
    cases e1 : bor ρ a (evE Φ ρ a) with
    | stuck => rw [e1] at q; exact q
    | ex c => rw [e1] at q; exact q
    | ok d =>
      rw [e1, bind_ok] at q
      intro v H1 F1 g1 rb
      unfold notD at q
      split at q
      · obtain rfl := rb.bool
        exact ⟨_, rfl, q _ _ _ g1 (.bl _) trivial⟩
      · exact q.elim
  · rw [bor_ne (m := .not a) (fun i z => by cases z)] at q
    simp only [evE] at q
    cases e1 : bor ρ a (evE Φ ρ a) with
    | stuck => rw [e1] at q; exact q
    | ex c => rw [e1] at q; exact q
    | ok d =>
      rw [e1, bind_ok] at q
      unfold notD at q
      split at q
      · exact q
      · exact q.elim
theorem rest_of {op : BoolOp} {b : E} (Sb : Snd T Φ ev b) {w : Wx} {s : Sc} {X : Cx} (G : Good T Φ w ev s X) {y : Expr} {r : List Expr} {p : Pos} (hop : op = .And ∨ op = .Or)
    (h : (if r.isEmpty then ckE T b s y else ckE T b s (.BoolOp op (y :: r) p)) = true) : PE X (.BoolOp op (y :: r) p) (tE X.K w Φ b) ∧ PW X (.BoolOp op (y :: r) p) (tT X.K w Φ b) := by
  cases r with
  | nil =>
    rw [List.isEmpty_nil, if_pos rfl] at h
    obtain ⟨h1, h2⟩ := Sb w s X y G h
    refine ⟨pe_one h1, ?_⟩
    rcases hop with rfl | rfl
    · exact pw_and1 h2
    · exact pw_or1 h2
  | cons z r =>
    rw [List.isEmpty_cons, if_neg Bool.false_ne_true] at h
    obtain ⟨h1, h2⟩ := Sb w s X _ G h
    exact ⟨h1, pw_of h2⟩
theorem snd_and {a b : E} (Sa : Snd T Φ ev a) (Sb : Snd T Φ ev b) : Snd T Φ ev (.and a b) := fun w s X e G h => by
  unfold ckE at h
  split at h
  rotate_left
  · cases h
  rename_i x y r p
  simp only [Bool.and_eq_true] at h
  obtain ⟨hb1, hb2⟩ := rest_of Sb G (.inl rfl) h.2
  obtain ⟨ha1, ha2⟩ := Sa w s X x G h.1
  refine ⟨pe_weak (pe_and (peB G h.1 ha1) hb1) fun σ H Q ⟨H0, F0, F, ρ, R, q⟩ => ⟨H0, F0, F, ρ, R, ?_⟩, (pw_and ha2 hb2).pt |> fun z => pt_weak z fun σ H Q ⟨H0, F0, F, ρ, R, q⟩ => ⟨H0, F0, F, ρ, R, ?_⟩⟩
  · simp only [evE] at q
    cases e1 : bor ρ a (evE Φ ρ a) with
    | stuck => rw [e1] at q; exact q
    | ex c => rw [e1] at q; exact q
    | ok d =>
      rw [e1, bind_ok] at q
      intro v H1 F1 g1 rb
      unfold andD at q
      split at q
      · obtain rfl := rb.bool
        refine ⟨true, rfl, ?_⟩
        rw [if_pos rfl]
        refine ⟨H0, F0, F1, ρ, R.grow g1, ?_⟩
        cases e2 : evE Φ ρ b with
        | stuck => rw [e2] at q; exact q
        | ex c => rw [e2] at q; exact fun H' F' g => q H' F' (g1.trans g)
        | ok b' => rw [e2] at q; exact fun v H2 F2 g2 rp nw => q v H2 F2 (g1.trans g2) rp (nw.back g1.h)
      · obtain rfl := rb.bool
        refine ⟨false, rfl, ?_⟩
        rw [if_neg Bool.false_ne_true]
        exact q _ _ _ g1 (.bl _) trivial
      · exact q.elim
  · rw [bor_ne (m := .and a b) (fun i z => by cases z)] at q
    simp only [evE] at q
    cases e1 : bor ρ a (evE Φ ρ a) with
    | stuck => rw [e1] at q; exact q
    | ex c => rw [e1] at q; exact q
    | ok d =>
      rw [e1, bind_ok] at q
      unfold andD at q
      split at q
      · intro H1 F1 g1
        rw [if_pos rfl]
        refine ⟨H0, F0, F1, ρ, R.grow g1, ?_⟩
        have q' : AfT X.K w σ H F (valM (evE Φ ρ b)) Q := q
        by_cases hv : ∃ i, b = .var i
        · obtain ⟨i, rfl⟩ := hv
          simp only [evE, bor, lookE, lookB, valM] at q' ⊢
          split at q'
          · rename_i d e3
            simp only [e3]
            rw [bind_ok] at q'
            cases d <;> first | exact q'.elim | exact fun H2 F2 g2 => q' H2 F2 (g1.trans g2)
          · exact q'.elim
        · rw [bor_ne fun i z => hv ⟨i, z⟩]
          cases e2 : evE Φ ρ b with
          | stuck => rw [e2] at q'; exact q'
          | ex c => rw [e2] at q'; exact fun H' F' g => q' H' F' (g1.trans g)
          | ok b' =>
            rw [e2] at q'
            change AfT _ _ _ _ _ (.ok b'.d) _ at q'
            change AfT _ _ _ _ _ (.ok b'.d) _
            cases hd : b'.d <;> rw [hd] at q' <;> first | exact q'.elim | exact fun H2 F2 g2 => q' H2 F2 (g1.trans g2)
      · intro H1 F1 g1
        rw [if_neg Bool.false_ne_true]
        exact q H1 F1 g1
      · exact q.elim
theorem snd_or {a b : E} (Sa : Snd T Φ ev a) (Sb : Snd T Φ ev b) : Snd T Φ ev (.or a b) := fun w s X e G h => by
  unfold ckE at h
  split at h
  rotate_left
  · cases h
  rename_i x y r p
  simp only [Bool.and_eq_true] at h
  obtain ⟨hb1, hb2⟩ := rest_of Sb G (.inr rfl) h.2
  obtain ⟨ha1, ha2⟩ := Sa w s X x G h.1
  refine ⟨pe_weak (pe_or (peB G h.1 ha1) hb1) fun σ H Q ⟨H0, F0, F, ρ, R, q⟩ => ⟨H0, F0, F, ρ, R, ?_⟩, (pw_or ha2 hb2).pt |> fun z => pt_weak z fun σ H Q ⟨H0, F0, F, ρ, R, q⟩ => ⟨H0, F0, F, ρ, R, ?_⟩⟩
  · simp only [evE] at q
    cases e1 : bor ρ a (evE Φ ρ a) with
    | stuck => rw [e1] at q; exact q
    | ex c => rw [e1] at q; exact q
    | ok d =>
      rw [e1, bind_ok] at q
      intro v H1 F1 g1 rb
      unfold orD at q
      split at q
      · obtain rfl := rb.bool
        refine ⟨false, rfl, ?_⟩
        rw [if_neg Bool.false_ne_true]
        refine ⟨H0, F0, F1, ρ, R.grow g1, ?_⟩
        cases e2 : evE Φ ρ b with
        | stuck => rw [e2] at q; exact q
        | ex c => rw [e2] at q; exact fun H' F' g => q H' F' (g1.trans g)
        | ok b' => rw [e2] at q; exact fun v H2 F2 g2 rp nw => q v H2 F2 (g1.trans g2) rp (nw.back g1.h)
      · obtain rfl := rb.bool
        refine ⟨true, rfl, ?_⟩
        rw [if_pos rfl]
        exact q _ _ _ g1 (.bl _) trivial
      · exact q.elim
  · rw [bor_ne (m := .or a b) (fun i z => by cases z)] at q
    simp only [evE] at q
    cases e1 : bor ρ a (evE Φ ρ a) with
    | stuck => rw [e1] at q; exact q
    | ex c => rw [e1] at q; exact q
    | ok d =>
      rw [e1, bind_ok] at q
      unfold orD at q
      split at q
      · intro H1 F1 g1
        rw [if_neg Bool.false_ne_true]
        refine ⟨H0, F0, F1, ρ, R.grow g1, ?_⟩
        have q' : AfT X.K w σ H F (valM (evE Φ ρ b)) Q := q
        by_cases hv : ∃ i, b = .var i
        · obtain ⟨i, rfl⟩ := hv
          simp only [evE, bor, lookE, lookB, valM] at q' ⊢
          split at q'
          · rename_i d e3
            simp only [e3]
            rw [bind_ok] at q'
            cases d <;> first | exact q'.elim | exact fun H2 F2 g2 => q' H2 F2 (g1.trans g2)
          · exact q'.elim
        · rw [bor_ne fun i z => hv ⟨i, z⟩]
          cases e2 : evE Φ ρ b with
          | stuck => rw [e2] at q'; exact q'
          | ex c => rw [e2] at q'; exact fun H' F' g => q' H' F' (g1.trans g)
          | ok b' =>
            rw [e2] at q'
            change AfT _ _ _ _ _ (.ok b'.d) _ at q'
            change AfT _ _ _ _ _ (.ok b'.d) _
            cases hd : b'.d <;> rw [hd] at q' <;> first | exact q'.elim | exact fun H2 F2 g2 => q' H2 F2 (g1.trans g2)
      · intro H1 F1 g1
        rw [if_pos rfl]
        exact q H1 F1 g1
      · exact q.elim
end
end Tg
namespace Tg
open PySem PySem.Spec PyProof.Rows L2
section
variable {T : Tb} {Φ : Fs} {ev : Nat → Value}
def AfP (w : Wx) (σ : L2.St) (H F : Hp) (r : M (Option Int)) (Q : Option Int → Hp → Prop) : Prop := match r with
  | .ok o => ∀ H' F', Gr H F H' F' → Q o H'
  | .ex c => ∀ H' F', Gr H F H' F' → w c σ H'
  | .stuck => False
def tP (K : PySem.W.Frag) (w : Wx) (Φ : Fs) (ms : List E) : TO := fun σ H Q => ∃ H0 F0 F ρ, StR K H0 F0 σ H F ρ ∧ AfP w σ H F (do let ls ← evL Φ ρ ms; partD ls) Q
theorem po_weak {X : Cx} {e : Option Expr} {t t' : TO} (h : PO X e t) (hw : ∀ σ H Q, t' σ H Q → t σ H Q) : PO X e t' := ⟨fun pins s σ H Q I q => h.run pins s σ H Q I (hw σ H Q q)⟩
theorem noex_part {ds : List D} {c : Nat} : partD ds ≠ .ex c := by
  intro h
  unfold partD at h
  split at h <;> cases h
theorem snd_part {ms : List E} (S : ∀ m ∈ ms, Snd T Φ ev m) {w : Wx} {s : Sc} {X : Cx} (G : Good T Φ w ev s X) {o : Option Expr} (h : (match o with | some y => ckL T ms s [y] | none => ms.isEmpty) = true) : PO X o (tP X.K w Φ ms) := by
  cases o with
  | none =>
    cases ms with
    | cons => simp at h
    | nil => exact po_weak po_none fun σ H Q ⟨H0, F0, F, ρ, R, a⟩ => (show AfP w σ H F (.ok none) Q from by simpa only [evL, bind_ok, partD] using a) H F (.refl R.s)
  | some y =>
    cases ms with
    | nil => simp [ckL] at h
    | cons m r =>
      cases r with
      | cons => simp [ckL] at h
      | nil =>
        simp only [ckL, Bool.and_eq_true] at h
        refine po_weak (po_some (S m List.mem_cons_self w s X y G h.1).1) fun σ H Q ⟨H0, F0, F, ρ, R, a⟩ => ⟨H0, F0, F, ρ, R, ?_⟩
        simp only [evL] at a
        cases e1 : evE Φ ρ m with
        | stuck => rw [e1] at a; exact a
        | ex c => rw [e1] at a; exact a
        | ok b =>
          rw [e1] at a
          intro v H1 F1 g1 rp nw
          cases b with
          | own ds => exact a.elim
          | val d =>
            cases d <;> try (exact a.elim)
            rename_i i
            have : v = .int i := by cases (show Dq X.K F1 v (.int i) from rp); rfl
            subst this
            exact ⟨i, rfl, a H1 F1 g1⟩
theorem snd_sl {a : E} {lo hi : List E} (Sa : Snd T Φ ev a) (Sl : ∀ m ∈ lo, Snd T Φ ev m) (Sh : ∀ m ∈ hi, Snd T Φ ev m) : Snd T Φ ev (.sl a lo hi) := snd_plain (fun s e h => by unfold ckE at h; split at h <;> first | rfl | cases h) fun w s X e G h => by
  unfold ckE at h
  split at h
  rotate_left
  · cases h
  rename_i x l u p2 pos
  simp only [Bool.and_eq_true] at h
  refine pe_weak (pe_slice sl_all (peB G h.1.1 (Sa w s X x G h.1.1).1) (snd_part Sl G h.1.2) (snd_part Sh G h.2)) fun σ H Q ⟨H0, F0, F, ρ, R, q⟩ => ⟨H0, F0, F, ρ, R, ?_⟩
  simp only [evE] at q
  cases e1 : bor ρ a (evE Φ ρ a) with
  | stuck => rw [e1] at q; exact q
  | ex c => rw [e1] at q; exact q
  | ok d =>
    rw [e1, bind_ok] at q
    intro v H1 F1 g1 rb
    refine ⟨H0, F0, F1, ρ, R.grow g1, ?_⟩
    cases e2 : evL Φ ρ lo with
    | stuck => rw [e2] at q; exact q
    | ex c => rw [e2] at q; exact fun H' F' g => q H' F' (g1.trans g)
    | ok ls =>
      rw [e2, bind_ok] at q
      rw [bind_ok]
      cases e3 : partD ls with
      | stuck => rw [e3] at q; exact q
      | ex c => exact (noex_part e3).elim
      | ok ol =>
        rw [e3, bind_ok] at q
        intro H2 F2 g2
        refine ⟨H0, F0, F2, ρ, (R.grow g1).grow g2, ?_⟩
        cases e4 : evL Φ ρ hi with
        | stuck => rw [e4] at q; exact q
        | ex c => rw [e4] at q; exact fun H' F' g => q H' F' ((g1.trans g2).trans g)
        | ok us =>
          rw [e4, bind_ok] at q
          rw [bind_ok]
          cases e5 : partD us with
          | stuck => rw [e5] at q; exact q
          | ex c => exact (noex_part e5).elim
          | ok ou =>
            rw [e5, bind_ok] at q
            intro H3 F3 g3
            exact ⟨F3, d, g3.s, (rb.mono g2).mono g3, AfV.ofE ((g1.trans g2).trans g3) (fun c => noex_sl) q⟩
theorem bi_boot (f : Bi) : bootBuiltins f.nm = some f.v := by cases f <;> decide +kernel
theorem bi_mem (f : Bi) : f.nm ∈ bltNames := by cases f <;> simp [bltNames, Bi.nm]
theorem bi_nn (f : Bi) : f.nm ≠ "__name__" := by cases f <;> decide
theorem bi_kind (f : Bi) : (∃ id, f.v = .builtin id) ∨ ∃ id, f.v = .type id := by cases f <;> first | exact .inl ⟨_, rfl⟩ | exact .inr ⟨_, rfl⟩
theorem snd_bi {f : Bi} {es : List E} (S : ∀ m ∈ es, Snd T Φ ev m) : Snd T Φ ev (.bi f es) := snd_plain (fun s e h => by unfold ckE at h; split at h <;> first | rfl | cases h) fun w s X e G h => by
  unfold ckE at h
  split at h
  rotate_left
  · cases h
  rename_i x p xs pos
  simp only [Bool.and_eq_true, decide_eq_true_eq] at h
  obtain ⟨⟨⟨rfl, hg⟩, hne⟩, hL⟩ := h
  cases xs with
  | nil => simp at hne
  | cons e0 es0 =>
    have hn := ckL_nst hL
    rw [List.all_cons, Bool.and_eq_true] at hn
    have pa := sndBs S G hL
    have hc := call_bi G.calm f
    have key : PE X (.Call (.Name f.nm p) (e0 :: es0) [] pos) (tCB (rn X.K (biD f)) (tBs X.K w Φ es)) := by
      rcases bi_kind f with ⟨id, hid⟩ | ⟨id, hid⟩
      · rw [hid] at hc
        exact pe_callB hc (gl_of G hg).1 (G.blt _ (bi_mem f)) (by rw [bi_boot, hid]) pa (bi_nn f) (gl_of G hg).2 (star_cons hn.1) (star_any hn.2)
      · rw [hid] at hc
        exact pe_callTy hc (gl_of G hg).1 (G.blt _ (bi_mem f)) (by rw [bi_boot, hid]) pa (bi_nn f) (gl_of G hg).2 (star_cons hn.1) (star_any hn.2)
    refine pe_weak key fun σ H Q ⟨H0, F0, F, ρ, R, q⟩ => ⟨H0, F0, F, ρ, R, ?_⟩
    simp only [evE] at q
    cases e1 : evBs Φ ρ es with
    | stuck => rw [e1] at q; exact q
    | ex c => rw [e1] at q; exact q
    | ok ds =>
      rw [e1, bind_ok] at q
      exact fun vs H1 F1 g1 rb => ⟨F1, ds, g1.s, rb, AfV.ofE g1 (fun c => noex_bi) q⟩
theorem snd_isi {a : E} {t : Ty} (Sa : Snd T Φ ev a) : Snd T Φ ev (.isi a t) := snd_plain (fun s e h => by unfold ckE at h; split at h <;> first | rfl | cases h) fun w s X e G h => by
  unfold ckE at h
  split at h
  rotate_left
  · cases h
  rename_i x p y z p2 pos
  simp only [Bool.and_eq_true, decide_eq_true_eq] at h
  obtain ⟨⟨⟨⟨rfl, hg⟩, rfl⟩, hg2⟩, hk⟩ := h
  have hb : bootBuiltins (Str.ofString t.nm) = some (.type t.nm) := by cases t <;> decide +kernel
  have hm : X.mg (Str.ofString t.nm) = none := G.blt _ (by cases t <;> decide +kernel)
  have hnn : Str.ofString t.nm ≠ "__name__" := by cases t <;> decide +kernel
  have pz : PE X (.Name (Str.ofString t.nm) p2) (L2.tC (.ty t.nm)) := pe_bltn (gl_of G hg2).1 hm hb rfl hnn (gl_of G hg2).2
  refine pe_weak (pe_callB (call_isiD t) (gl_of G hg).1 (G.blt _ (by simp [bltNames])) (by decide +kernel) (pa_cons (peB G hk (Sa w s X y G hk).1) (pa_cons pz pa_nil rfl) (star_cons (ckE_nst hk))) (by decide) (by decide) (star_cons (ckE_nst hk)) rfl) fun σ H Q ⟨H0, F0, F, ρ, R, q⟩ => ⟨H0, F0, F, ρ, R, ?_⟩
  simp only [evE] at q
  cases e1 : bor ρ a (evE Φ ρ a) with
  | stuck => rw [e1] at q; exact q
  | ex c => rw [e1] at q; exact q
  | ok d =>
    rw [e1, bind_ok] at q
    exact fun v H1 F1 g1 rb => ⟨v, F1, d, rfl, g1.s, rb, AfV.ofE g1 (fun c => noex_isi) q⟩
theorem snd_call {k : Nat} {es : List E} (S : ∀ m ∈ es, Snd T Φ ev m) : Snd T Φ ev (.call k es) := snd_plain (fun s e h => by unfold ckE at h; split at h <;> first | rfl | cases h) fun w s X e G h => by
  unfold ckE at h
  split at h
  rotate_left
  · cases h
  rename_i x p xs pos
  simp only [Bool.and_eq_true, decide_eq_true_eq] at h
  obtain ⟨⟨⟨hc, hg⟩, hne⟩, hL⟩ := h
  obtain ⟨f, fd, ps, lvl, hm, hr, F, ha, hk, hb⟩ := G.calls k x hc
  cases xs with
  | nil => simp at hne
  | cons e0 es0 =>
    have hn := ckL_nst hL
    rw [List.all_cons, Bool.and_eq_true] at hn
    refine pe_weak (pe_callS F hr (gl_of G hg).1 hm hk hb (fun σ => passAt G.tk σ) (sndL S G hL) (gl_of G hg).2 (star_cons hn.1) (star_any hn.2)) fun σ H Q ⟨H0, F0, Fz, ρ, R, q⟩ => ⟨H0, F0, Fz, ρ, R, ?_⟩
    simp only [evE] at q
    cases e1 : evL Φ ρ es with
    | stuck => rw [e1] at q; exact q
    | ex c => rw [e1] at q; exact q
    | ok ds =>
      rw [e1, bind_ok] at q
      intro vs H1 F1 g1 dq
      by_cases hlen : ds.length = ps.length
      · refine ⟨F1, ds, by rw [dq.length]; exact hlen, g1.s, dq, ?_⟩
        cases e2 : Φ k ds with
        | stuck => rw [e2] at q; exact q
        | ex c => rw [e2] at q; exact fun H' F' g => ⟨c, rfl, rfl, q H' F' (g1.trans g)⟩
        | ok b => rw [e2] at q; exact fun v H2 F2 g2 rp nw => q v H2 F2 (g1.trans g2) rp (nw.back g1.h)
      · rw [ha ds hlen] at q; exact q.elim
theorem pick_all {K : PySem.W.Frag} {F : Hp} {vs : List V} {ds : List D} (r : DqAll K F vs ds) (lo hi st : Option Int) : DqAll K F (pickG vs lo hi st) (pickG ds lo hi st) := by
  unfold pickG
  rw [r.length]
  generalize sliceRange _ _ _ = ks
  induction ks with
  | nil => exact .nil
  | cons k ks ih =>
    rw [List.filterMap_cons, List.filterMap_cons]
    have hl := r.length
    by_cases hk : k < ds.length
    · obtain ⟨v, e, rv⟩ := r.get (List.getElem?_eq_getElem hk)
      rw [List.getElem?_eq_getElem hk, e]
      exact .cons rv ih
    · rw [List.getElem?_eq_none (by omega), List.getElem?_eq_none (by omega)]
      exact ih
theorem AfP.step {w : Wx} {σ : L2.St} {H F : Hp} {ρ : En} {ms : List E} {r : Option Int → M B} {Q : VK} {K : PySem.W.Frag} {Q2 : Option Int → Hp → Prop} (h : AfE K w σ H F (do let ls ← evL Φ ρ ms; let o ← partD ls; r o) Q)
    (q : ∀ o H' F', Gr H F H' F' → AfE K w σ H F (r o) Q → Q2 o H') : AfP w σ H F (do let ls ← evL Φ ρ ms; partD ls) Q2 := by
  cases e2 : evL Φ ρ ms with
  | stuck => rw [e2] at h; exact h
  | ex c => rw [e2] at h; exact h
  | ok ls =>
    rw [e2, bind_ok] at h
    rw [bind_ok]
    cases e3 : partD ls with
    | stuck => rw [e3] at h; exact h
    | ex c => exact (noex_part e3).elim
    | ok ol =>
      rw [e3, bind_ok] at h
      exact fun H' F' g => q ol H' F' g h
theorem AfE.at {K : PySem.W.Frag} {w : Wx} {σ : L2.St} {H F H1 F1 : Hp} {r : M B} {Q : VK} (h : AfE K w σ H F r Q) (g : Gr H F H1 F1) : AfE K w σ H1 F1 r Q := by
  cases r with
  | stuck => exact h
  | ex c => exact fun H' F' g2 => h H' F' (g.trans g2)
  | ok b => exact fun v H' F' g2 rp nw => h v H' F' (g.trans g2) rp (nw.back g.h)
theorem snd_sl3 {a : E} {lo hi st : List E} (Sa : Snd T Φ ev a) (Sl : ∀ m ∈ lo, Snd T Φ ev m) (Sh : ∀ m ∈ hi, Snd T Φ ev m) (Ss : ∀ m ∈ st, Snd T Φ ev m) : Snd T Φ ev (.sl3 a lo hi st) := snd_plain (fun s e h => by unfold ckE at h; split at h <;> first | rfl | cases h) fun w s X e G h => by
  unfold ckE at h
  split at h
  rotate_left
  · cases h
  rename_i x px l u k p2 pos
  simp only [Bool.and_eq_true] at h
  refine pe_weak (pe_slice3 (peB G h.1.1.1 (Sa w s X _ G h.1.1.1).1) (snd_part Sl G h.1.1.2) (snd_part Sh G h.1.2) (snd_part (o := some k) Ss G h.2)) fun σ H Q ⟨H0, F0, F, ρ, R, q⟩ => ⟨H0, F0, F, ρ, R, ?_⟩
  simp only [evE] at q
  cases e1 : bor ρ a (evE Φ ρ a) with
  | stuck => rw [e1] at q; exact q
  | ex c => rw [e1] at q; exact q
  | ok d =>
    rw [e1, bind_ok] at q
    intro v H1 F1 g1 rb
    refine ⟨H0, F0, F1, ρ, R.grow g1, ?_⟩
    refine AfP.step (AfE.at q g1) (r := fun l' => do let u ← evL Φ ρ hi; let u' ← partD u; let k ← evL Φ ρ st; let k' ← partD k; sl3D d l' u' k') fun ol H2 F2 g2 q => ?_
    refine ⟨H0, F0, F2, ρ, (R.grow g1).grow g2, ?_⟩
    refine AfP.step (AfE.at q g2) (r := fun u' => do let k ← evL Φ ρ st; let k' ← partD k; sl3D d ol u' k') fun ou H3 F3 g3 q => ?_
    refine ⟨H0, F0, F3, ρ, ((R.grow g1).grow g2).grow g3, ?_⟩
    refine AfP.step (AfE.at q g3) (r := fun k' => sl3D d ol ou k') fun ok H4 F4 g4 q => ?_
    unfold sl3D at q
    split at q
    rotate_left
    · exact q.elim
    split at q
    rotate_left
    · exact q.elim
    rename_i xs _ _ _ hc
    obtain ⟨l, vs, rfl, hl, hd⟩ := (((rb.mono g2).mono g3).mono g4).list g4.s
    have pa := pick_all hd ol ou ok
    have hle := line_ok hc.2
    exact ⟨l, vs, rfl, hl, hc.1, by show (pickG vs ol ou ok).length ≤ _; rw [pa.length]; omega, (AfV.ofE g4 (fun c z => by cases z) q).new g4.s pa⟩
theorem snd_inr {neg : Bool} {a : E} {bs : List E} (Sa : Snd T Φ ev a) (Sb : ∀ m ∈ bs, Snd T Φ ev m) : Snd T Φ ev (.inr neg a bs) := fun w s X e G h => by
  unfold ckE at h
  split at h
  rotate_left
  · cases h
  rename_i x p r pr ys pc pos
  simp only [Bool.and_eq_true, decide_eq_true_eq] at h
  obtain ⟨⟨⟨⟨⟨h1, rfl⟩, hg⟩, hy⟩, h3⟩, h4⟩ := h
  have pa := peB G h3 (Sa w s X x G h3).1
  cases ys with
  | nil => simp at hy
  | cons y0 ys =>
    have hn := ckL_nst h4
    rw [List.all_cons, Bool.and_eq_true] at hn
    have pb := pe_callTy (p := pr) (pos := pc) cr_range1 (gl_of G hg).1 (G.blt _ (by simp [bltNames])) (by decide +kernel) (sndL Sb G h4) (by decide) (gl_of G hg).2 (star_cons hn.1) (star_any hn.2)
    have tail : ∀ {σ : L2.St} {H H0 F0 F : Hp} {ρ : En} {Q : VK} {rr : R2}, StR X.K H0 F0 σ H F ρ → AfE X.K w σ H F (evE Φ ρ (.inr neg a bs)) Q →
        (∀ i n l H', H' l = some (.rng 0 n) → Q (.bl (if neg then !decide (0 ≤ i ∧ i < n) else decide (0 ≤ i ∧ i < n))) H' → rr (.int i) (.ref l) H' Q) →
        tOp rr (tB X.K w Φ a) (tCB (fun vs H Q => ∃ j, vs = [V.int j] ∧ ∀ p, H p = none → Q (.ref p) (upd H p (.rng 0 j))) (tL X.K w Φ bs)) σ H Q := by
      intro σ H H0 F0 F ρ Q rr R q hr
      refine ⟨H0, F0, F, ρ, R, ?_⟩
      simp only [evE] at q
      cases e1 : bor ρ a (evE Φ ρ a) with
      | stuck => rw [e1] at q; exact q
      | ex c => rw [e1] at q; exact q
      | ok d =>
        rw [e1, bind_ok] at q
        intro v H1 F1 g1 rb
        refine ⟨H0, F0, F1, ρ, R.grow g1, ?_⟩
        cases e2 : evL Φ ρ bs with
        | stuck => rw [e2] at q; exact q
        | ex c => rw [e2] at q; exact fun H' F' g => q H' F' (g1.trans g)
        | ok ds =>
          rw [e2, bind_ok] at q
          intro vs H2 F2 g2 dq
          unfold inrD at q
          split at q
          rotate_left
          · exact q.elim
          rename_i i n
          obtain rfl := rb.int
          match vs, dq with
          | [_], .cons d1 .nil =>
            cases d1
            refine ⟨n, rfl, fun p hp => hr i n p _ upd_same ?_⟩
            exact q _ _ _ ((g1.trans g2).trans (.mine g2.s hp)) (.bl _) trivial
    have hp : (p = .In ∧ neg = false) ∨ (p = .NotIn ∧ neg = true) := by
      cases p <;> simp at h1 <;> simp [h1]
    rcases hp with ⟨rfl, rfl⟩ | ⟨rfl, rfl⟩
    · refine ⟨pe_weak (pe_cmpR op_in_rng pa pb rfl) fun σ H Q ⟨H0, F0, F, ρ, R, q⟩ => ?_, pt_weak (pt_cmpR op_in_rng pa pb rfl) fun σ H Q ⟨H0, F0, F, ρ, R, q⟩ => ?_⟩
      · exact tail R q fun i n l H' hl z => ⟨i, l, 0, n, rfl, rfl, hl, z⟩
      · rw [bor_ne (m := .inr false a bs) (fun i z => by cases z)] at q
        exact tail R q.toB.toE fun i n l H' hl z => ⟨i, l, 0, n, rfl, rfl, hl, z⟩
    · refine ⟨pe_weak (pe_cmpR op_notIn_rng pa pb rfl) fun σ H Q ⟨H0, F0, F, ρ, R, q⟩ => ?_, pt_weak (pt_cmpR op_notIn_rng pa pb rfl) fun σ H Q ⟨H0, F0, F, ρ, R, q⟩ => ?_⟩
      · exact tail R q fun i n l H' hl z => ⟨i, l, 0, n, rfl, rfl, hl, z⟩
      · rw [bor_ne (m := .inr true a bs) (fun i z => by cases z)] at q
        exact tail R q.toB.toE fun i n l H' hl z => ⟨i, l, 0, n, rfl, rfl, hl, z⟩
theorem pass_no {X : Cx} : Passes (CX X.prog X.w) X (fun _ _ _ => False) := fun pins σ H s e s' _ h => by
  obtain ⟨_, _, _, _, _, _, _, _, _, _, _, _, z⟩ := h
  exact z.elim
theorem snd_call0 {k : Nat} : Snd T Φ ev (.call0 k) := snd_plain (fun s e h => by unfold ckE at h; split at h <;> first | rfl | cases h) fun w s X e G h => by
  unfold ckE at h
  split at h
  rotate_left
  · cases h
  rename_i x p pos
  simp only [Bool.and_eq_true, decide_eq_true_eq] at h
  obtain ⟨hc, hg⟩ := h
  obtain ⟨f, fd, ps, lvl, hm, hr, F, ha, hk, hb⟩ := G.calls k x hc
  refine pe_weak (pe_call0 (p := p) (pos := pos) F hr (gl_of G hg).1 hm hk hb .nil pass_no (gl_of G hg).2) fun σ H Q ⟨H0, F0, Fz, ρ, R, q⟩ => ?_
  simp only [evE] at q
  by_cases hlen : ([] : List D).length = ps.length
  · refine ⟨Fz, [], hlen, R.s, .nil, ?_⟩
    cases e2 : Φ k [] with
    | stuck => rw [e2] at q; exact q
    | ex c => rw [e2] at q; exact q.elim
    | ok b => rw [e2] at q; exact q
  · rw [ha [] hlen] at q; exact q.elim
mutual
theorem snd : ∀ m : E, Snd T Φ ev m
  | .var i => snd_var i
  | .con d => snd_con d
  | .glob k d => snd_glob k d
  | .tup es => snd_tup (sndAll es)
  | .lst es => snd_lst (sndAll es)
  | .rep es b => snd_rep (sndAll es) (snd b)
  | .bop o a b => snd_bop (snd a) (snd b)
  | .neg a => snd_neg (snd a)
  | .not a => snd_not (snd a)
  | .and a b => snd_and (snd a) (snd b)
  | .or a b => snd_or (snd a) (snd b)
  | .cmp o a b => snd_cmp (snd a) (snd b)
  | .ix a b => snd_ix (snd a) (snd b)
  | .sl a lo hi => snd_sl (snd a) (sndAll lo) (sndAll hi)
  | .sl3 a lo hi st => snd_sl3 (snd a) (sndAll lo) (sndAll hi) (sndAll st)
  | .inr neg a bs => snd_inr (snd a) (sndAll bs)
  | .call0 k => snd_call0
  | .bi f es => snd_bi (sndAll es)
  | .isi a t => snd_isi (snd a)
  | .call k es => snd_call (sndAll es)
  | .lc m t k es c own => snd_plain (fun s e h => by unfold ckE at h; split at h <;> first | rfl | cases h) fun w s X e G h => snd_lc (snd m) (sndAll es) (sndAll c) G h
theorem sndAll : ∀ (ms : List E), ∀ m ∈ ms, Snd T Φ ev m
  | [], m, h => by cases h
  | a :: r, m, h => by
    by_cases e : m = a
    · rw [e]; exact snd a
    · exact sndAll r m ((List.mem_cons.mp h).resolve_left e)
end
end
end Tg
namespace Tg
open PySem PySem.Spec PyProof.Rows L2
def nlc : Expr → Bool
  | .ListComp .. => false
  | .SetComp .. => false
  | .DictComp .. => false
  | _ => true
def ntup : Expr → Bool
  | .Tuple .. => false
  | _ => true
def nmLoc (s : Sc) (e : Expr) : Bool := match e with | .Name x _ => decide (s.kd x = some .local) | _ => false
def fnK (s : Sc) : Bool := match s.sc.kind with | .function => true | _ => false
def parOk (s : Sc) (ts vs : List Expr) : Bool := match ts, vs with
  | [.Name x px, .Name y py], [a, b] => nst a && nst b && decide (s.kd x = some .local) && decide (s.kd y = some .local) && (py.line == px.line) && (!(x == y)) && !([a, b].all (foldedForSure 8)) && !([a, b].all (constantsAlone 8))
  | [.Name x px, .Name y py, .Name z pz], [a, b, c] => nst a && nst b && nst c && decide (s.kd x = some .local) && decide (s.kd y = some .local) && decide (s.kd z = some .local) && (py.line == px.line) && (pz.line == px.line) &&
      (!(x == y)) && (!(x == z)) && (!(y == z)) && !([a, b, c].all (foldedForSure 8)) && !([a, b, c].all (constantsAlone 8))
  | _, _ => false
def parNo (ts vs : List Expr) : Bool := (!(ts.length == 2 || ts.length == 3)) || vs.all (foldedForSure 8) && vs.all nst
def ckAsg (T : Tb) (s : Sc) (t : Tg) (m : E) (tg e : Expr) : Bool := match t with
  | .nm i => (match tg with | .Name x _ => ckLoc T s i x && ckE T m s e && (match e with | .SetComp .. => false | .DictComp .. => false | _ => true) | _ => false)
  | .tp ts => (match tg with
    | .Tuple es _ _ => ckTs T s ts es && ckE T m s e && nlc e && (match e with | .Tuple vs _ _ => fnK s && (parOk s es vs || parNo es vs) | _ => true)
    | _ => false)
def ckIs (T : Tb) (s : Sc) (d : Nat) (n : Str) (b : Bool) (e : Expr) : Bool := match e with
  | .Call (.Name f _) [.Name y _, .Name x _] [] _ => decide (f = "isinstance") && ckGl s f && decide (y = n) && ckGl s x && T.kit.contains (d, x, b)
  | _ => false
def ckNms (T : Tb) (s : Sc) (d : Nat) : List Expr → Bool
  | [] => true
  | .Name x _ :: r => ckGl s x && T.kit.contains (d, x, false) && ckNms T s d r
  | _ :: _ => false
def ckIsT (T : Tb) (s : Sc) (d : Nat) (n : Str) (b : Bool) (e : Expr) : Bool := match e with
  | .Call (.Name f _) [.Name y _, .Tuple xs _ _] [] _ => !b && decide (f = "isinstance") && ckGl s f && decide (y = n) && decide (xs.length < 1000) && ckNms T s d xs
  | _ => false
def ckIss (T : Tb) (s : Sc) (d : Nat) (n : Str) : List Bool → List Expr → Bool
  | [], es => es.isEmpty
  | b :: bs, es => (match es with | e :: r => ckIs T s d n b e && ckIss T s d n bs r | [] => false)
def ckSu (T : Tb) (s : Sc) (d : Nat) (n : Str) (m : SuE) (e : Expr) : Bool := match m with
  | .is b => ckIs T s d n b e || ckIsT T s d n b e
  | .two => (match e with | .BoolOp .And [x, y] _ => ckIs T s d n true x && ckIs T s d n true y | _ => false)
  | .lst bs => (match e with | .List xs _ => decide (bs.length < 1000) && ckIss T s d n bs xs | _ => false)
  | .cat j bs => (match e with | .BinOp (.Name x _) .Add (.List xs _) _ => ckVis T s j x && decide (bs.length < 1000) && ckIss T s d n bs xs | _ => false)
  | .con b => (match e with | .Constant (.bool c) _ _ => decide (b = c) | _ => false)
def ckSus (T : Tb) (s : Sc) (d i : Nat) (n : Str) : List (Nat × SuE) → List Stmt → Bool
  | [], ys => ys.isEmpty
  | (j, m) :: r, ys => (match ys with
    | .Assign [.Name x _] e _ :: q => decide (j ≠ i) && ckLoc T s j x && ckSu T s d n m e && nlc e && ckSus T s d i n r q
    | _ => false)
mutual
def ckS (T : Tb) (s : Sc) : S → Stmt → Bool
  | .asg t m, st => (match st with | .Assign [tg] e _ => ckAsg T s t m tg e | _ => false)
  | .set i m, st => (match st with | .Assign [tg] e _ => ckAsg T s (.nm i) m tg e | _ => false)
  | .put i k m, st => (match st with | .Assign [.Subscript (.Name x _) y _] e _ => ckVis T s i x && ckE T k s y && ckE T m s e && nlc e && plainIx y | _ => false)
  | .app i m, st => (match st with
    | .Expr (.Call (.Attribute (.Name x _) a apos) [e] [] cpos) _ => ckVis T s i x && decide (a = "append") && ckE T m s e && (apos.endLine == cpos.line)
    | _ => false)
  | .ite c a b, st => (match st with | .If e x y _ => ckE T c s e && ckB T s a x && ckB T s b y | _ => false)
  | .for t k es body, st => (match st with
    | .For tg iter x [] _ => ckIt T k es s iter && (match k with | .zip => (match tg with | .Tuple .. => true | _ => false) | _ => true) && ckT T s t tg && ckB T s body x
    | _ => false)
  | .whl c body, st => (match st with | .While e x [] _ => ckE T c s e && ckB T s body x | _ => false)
  | .ret m, st => (match st with | .Return (some e) _ => ckE T m s e | _ => false)
  | .cont, st => (match st with | .Continue _ => true | _ => false)
  | .pass, st => (match st with | .Pass _ => true | _ => false)
  | .frz _ m, st => ckS T s m st
  | .tri m d i sts, st => (match st with
    | .Try [.Expr e _] [.ExceptHandler (some (.Name x _)) (some n) suite _] [] [] _ => !suite.isEmpty && decide (s.kd n = some .local) && decide (T.N[i]? = some n) && (!(n == ("__debug__" : Str))) && (!(n == ("__classdict__" : Str))) && ckE T m s e && nlc e && ckGl s x && T.hnd.contains (d, x) && ckSus T s d i n sts suite
    | _ => false)
  | .raise c, st => (match st with
    | .Raise (some (.Call (.Name x _) [.Constant (.str _) _ _] [] _)) none _ => decide (T.exc[c]? = some x) && ckGl s x
    | _ => false)
  | .bad, _ => true
def ckB (T : Tb) (s : Sc) : List S → List Stmt → Bool
  | [], ys => ys.isEmpty
  | m :: ms, ys => (match ys with | y :: r => ckS T s m y && ckB T s ms r | [] => false)
end
def AfS (K : PySem.W.Frag) (w : Wx) (H0 F0 Fa : Hp) (r : M Out) (D : Ends) : Prop := match r with
  | .ok (.nx ρ) => ∀ σ H F, StR K H0 F0 σ H F ρ → Same Fa F → D.nx σ H
  | .ok (.ct ρ) => ∀ σ H F, StR K H0 F0 σ H F ρ → Same Fa F → D.ct σ H
  | .ok (.rt b) => ∀ v H F, Gr H0 F0 H F → RepB K H F b v → NewB H0 b v → D.rt v H
  | .ex c => ∀ σ H F, Gr H0 F0 H F → w c σ H
  | .stuck => False
def tS (K : PySem.W.Frag) (w : Wx) (Φ : Fs) (m : S) : TS := fun D σ H => ∃ H0 F0 F ρ, StR K H0 F0 σ H F ρ ∧ AfS K w H0 F0 F (exS Φ m ρ) D
def tSs (K : PySem.W.Frag) (w : Wx) (Φ : Fs) (ms : List S) : TS := fun D σ H => ∃ H0 F0 F ρ, StR K H0 F0 σ H F ρ ∧ AfS K w H0 F0 F (exL Φ ms ρ) D
theorem AfS.mono {K : PySem.W.Frag} {w : Wx} {H0 F0 F1 F2 : Hp} {r : M Out} {D : Ends} (h : AfS K w H0 F0 F1 r D) (s : Same F1 F2) : AfS K w H0 F0 F2 r D := by
  cases r with
  | stuck => exact h
  | ex c => exact h
  | ok o =>
    cases o with
    | nx ρ => exact fun σ H F R q => h σ H F R (s.trans q)
    | ct ρ => exact fun σ H F R q => h σ H F R (s.trans q)
    | rt b => exact h
theorem ps_weak {X : Cx} {e : Stmt} {t t' : TS} (h : PS X e t) (hw : ∀ D σ H, t' D σ H → t D σ H) : PS X e t' := ⟨fun pins s σ H D I q => h.run pins s σ H D I (hw D σ H q)⟩
theorem pss_weak {X : Cx} {e : List Stmt} {t t' : TS} (h : PSs X e t) (hw : ∀ D σ H, t' D σ H → t D σ H) : PSs X e t' := ⟨fun pins s σ H D I q => h.run pins s σ H D I (hw D σ H q)⟩
def Top (X : Cx) : Prop := X.stack = X.env :: X.outer ∧ X.env.frame = some X.env.locals
def SndS (T : Tb) (Φ : Fs) (ev : Nat → Value) (m : S) : Prop := ∀ (w : Wx) (s : Sc) (X : Cx) (e : Stmt), Good T Φ w ev s X → Top X → ckS T s m e = true → PS X e (tS X.K w Φ m)
def SndB (T : Tb) (Φ : Fs) (ev : Nat → Value) (m : List S) : Prop := ∀ (w : Wx) (s : Sc) (X : Cx) (e : List Stmt), Good T Φ w ev s X → Top X → ckB T s m e = true → PSs X e (tSs X.K w Φ m)
section
variable {K : PySem.W.Frag} {H0 F0 H F : Hp} {σ : L2.St} {ρ : En}
theorem StR.setO (R : StR K H0 F0 σ H F ρ) {H1 F1 : Hp} (g : Gr H F H1 F1) (i : Nat) {l : Addr} {vs : List V} {ds : List D} (h1 : H1 l = some (.lst vs)) (h2 : F1 l = none) (h3 : H l = none) (h4 : DqAll K F1 vs ds) :
    StR K H0 F0 (σ.set i (some (.ref l))) H1 F1 (ρ.set i (some (.own ds))) := by
  have R1 := R.grow g
  refine ⟨R1.gr, by rw [List.length_set, List.length_set, R.len], fun j d e => ?_, fun j es e => ?_, fun j k es es' l' ne e1 e2 e3 e4 => ?_⟩
  · by_cases hj : i = j
    · subst hj
      have hl := (List.getElem?_eq_some_iff.mp e).1
      rw [List.length_set] at hl
      rw [List.getElem?_set_self hl] at e; cases e
    · rw [List.getElem?_set_ne hj] at e ⊢
      exact R1.val j d e
  · by_cases hj : i = j
    · subst hj
      have hl := (List.getElem?_eq_some_iff.mp e).1
      rw [List.length_set] at hl
      rw [List.getElem?_set_self hl] at e; cases e
      exact ⟨l, vs, List.getElem?_set_self (by rw [R.len]; exact hl), h1, h2, R.gr.h.free h3, h4⟩
    · rw [List.getElem?_set_ne hj] at e ⊢
      exact R1.own j es e
  · have other : ∀ {j : Nat} {es : List D} {l' : Addr}, i ≠ j → ρ[j]? = some (some (.own es)) → σ[j]? = some (some (.ref l')) → l' ≠ l := fun {j es l'} hj e e' z => by
      obtain ⟨l2, vs2, f1, f2, _⟩ := R.own j es e
      rw [f1] at e'; cases e'
      rw [z, h3] at f2; cases f2
    by_cases hj : i = j
    · subst hj
      have hl := (List.getElem?_eq_some_iff.mp e1).1
      rw [List.length_set] at hl
      rw [List.getElem?_set_self (by rw [R.len]; exact hl)] at e3
      cases e3
      rw [List.getElem?_set_ne ne] at e2 e4
      exact other ne e2 e4 rfl
    · by_cases hk : i = k
      · subst hk
        have hl := (List.getElem?_eq_some_iff.mp e2).1
        rw [List.length_set] at hl
        rw [List.getElem?_set_self (by rw [R.len]; exact hl)] at e4
        cases e4
        rw [List.getElem?_set_ne hj] at e1 e3
        exact other hj e1 e3 rfl
      · rw [List.getElem?_set_ne hj] at e1 e3
        rw [List.getElem?_set_ne hk] at e2 e4
        exact R.sep j k es es' l' ne e1 e2 e3 e4
theorem StR.setB (R : StR K H0 F0 σ H F ρ) {H1 F1 : Hp} (g : Gr H F H1 F1) (i : Nat) {b : B} {v : V} (rp : RepB K H1 F1 b v) (nw : NewB H b v) : StR K H0 F0 (σ.set i (some v)) H1 F1 (ρ.set i (some b)) := by
  cases b with
  | val d => exact (R.grow g).setV i rp
  | own ds =>
    obtain ⟨l, vs, rfl, h1, h2, h3⟩ := rp
    obtain ⟨l', e, n⟩ := nw
    cases e
    exact R.setO g i h1 h2 n h3
theorem StR.change (R : StR K H0 F0 σ H F ρ) {i : Nat} {ds es : List D} {l : Addr} {us : List V} (e : ρ[i]? = some (some (.own ds))) (el : σ[i]? = some (some (.ref l))) (h : DqAll K F us es) :
    StR K H0 F0 σ (upd H l (.lst us)) F (ρ.set i (some (.own es))) := by
  obtain ⟨l', vs, f1, f2, f3, f4, f5⟩ := R.own i ds e
  rw [el] at f1; cases f1
  have hl := (List.getElem?_eq_some_iff.mp e).1
  refine ⟨R.gr.put f4 f3, by rw [List.length_set, R.len], fun j d ej => ?_, fun j es' ej => ?_, fun j k es1 es2 l' ne e1 e2 e3 e4 => ?_⟩
  · by_cases hj : i = j
    · subst hj
      rw [List.getElem?_set_self hl] at ej; cases ej
    · rw [List.getElem?_set_ne hj] at ej
      exact R.val j d ej
  · by_cases hj : i = j
    · subst hj
      rw [List.getElem?_set_self hl] at ej; cases ej
      exact ⟨l, us, el, upd_same, f3, f4, h⟩
    · rw [List.getElem?_set_ne hj] at ej
      obtain ⟨l2, vs2, g1, g2, g3, g4, g5⟩ := R.own j es' ej
      refine ⟨l2, vs2, g1, ?_, g3, g4, g5⟩
      rw [upd_ne fun z => ?_]
      · exact g2
      · subst z; exact R.sep i j ds es' l2 hj e ej el g1
  · have own' : ∀ {j : Nat} {es' : List D}, (ρ.set i (some (.own es)))[j]? = some (some (.own es')) → ∃ es2, ρ[j]? = some (some (.own es2)) := fun {j es'} q => by
      by_cases hj : i = j
      · subst hj; exact ⟨ds, e⟩
      · rw [List.getElem?_set_ne hj] at q; exact ⟨_, q⟩
    obtain ⟨x1, q1⟩ := own' e1
    obtain ⟨x2, q2⟩ := own' e2
    exact R.sep j k x1 x2 l' ne q1 q2 e3 e4
theorem StR.frz1 (R : StR K H0 F0 σ H F ρ) {i : Nat} {ds : List D} (e : ρ[i]? = some (some (.own ds))) : ∃ F', StR K H0 F0 σ H F' (ρ.set i (some (.val (.list ds)))) ∧ Same F F' := by
  obtain ⟨l, vs, f1, f2, f3, f4, f5⟩ := R.own i ds e
  have hl := (List.getElem?_eq_some_iff.mp e).1
  have sn : Same F (upd F l (.lst vs)) := same_new f3
  refine ⟨upd F l (.lst vs), ⟨R.gr.freeze f2 f4, by rw [List.length_set, R.len], fun j d ej => ?_, fun j es' ej => ?_, fun j k es1 es2 l' ne e1 e2 e3 e4 => ?_⟩, sn⟩
  · by_cases hj : i = j
    · subst hj
      rw [List.getElem?_set_self hl] at ej; cases ej
      exact ⟨.ref l, f1, .lst (.of upd_same) (DqAll.mono sn _ _ f5)⟩
    · rw [List.getElem?_set_ne hj] at ej
      obtain ⟨v, g1, g2⟩ := R.val j d ej
      exact ⟨v, g1, Dq.mono sn _ _ g2⟩
  · by_cases hj : i = j
    · subst hj
      rw [List.getElem?_set_self hl] at ej; cases ej
    · rw [List.getElem?_set_ne hj] at ej
      obtain ⟨l2, vs2, g1, g2, g3, g4, g5⟩ := R.own j es' ej
      refine ⟨l2, vs2, g1, g2, ?_, g4, DqAll.mono sn _ _ g5⟩
      rw [upd_ne fun z => ?_]
      · exact g3
      · subst z; exact R.sep i j ds es' l2 hj e ej f1 g1
  · have hj : i ≠ j := fun z => by subst z; rw [List.getElem?_set_self hl] at e1; cases e1
    have hk : i ≠ k := fun z => by subst z; rw [List.getElem?_set_self hl] at e2; cases e2
    rw [List.getElem?_set_ne hj] at e1
    rw [List.getElem?_set_ne hk] at e2
    exact R.sep j k es1 es2 l' ne e1 e2 e3 e4
theorem StR.frz : ∀ (is : List Nat) {F : Hp} {ρ : En}, StR K H0 F0 σ H F ρ → ∃ F', StR K H0 F0 σ H F' (frzE ρ is) ∧ Same F F'
  | [], F, _, R => ⟨F, R, .refl _⟩
  | i :: is, F, ρ, R => by
    unfold frzE
    split
    · rename_i ds e
      obtain ⟨F', R', s1⟩ := R.frz1 e
      obtain ⟨F2, R2, s2⟩ := StR.frz is R'
      exact ⟨F2, R2, s1.trans s2⟩
    · exact StR.frz is R
end
end Tg
namespace Tg
open PySem PySem.Spec PyProof.Rows L2
theorem fnK_ok {s : Sc} (h : fnK s = true) : s.sc.kind = .function := by
  unfold fnK at h
  split at h
  · assumption
  · cases h
theorem blockKind_fn {env : Env} (h : env.scope.kind = .function) : env.blockKind = .function := by
  unfold Env.blockKind
  rw [h]; rfl
theorem sw_none {e : Expr} {t : Option Expr} {l : Nat} {env : Env} (h : nlc e = true) : swapsWith e t l env = pure false := by
  cases e <;> first | rfl | cases h
theorem sw_sole {e t : Expr} {l : Nat} {env : Env} (h : nlc e = true) : swapsWithSole [t] e l env = pure false := by
  cases e <;> first | rfl | cases h
theorem sw_lc {elt : Expr} {gs : List Comprehension} {scope : Scope} {pos py : Pos} {y : Str} {l : Nat} {env : Env} : swapsWith (.ListComp elt gs scope pos) (some (.Name y py)) l env =
    pure (env.blockKind == .function && env.kindOf y == some .local && py.line == pos.line && !(scope.names.any fun (n, k) => n == y && (k == .local || k == .cell))) := rfl
theorem sst_ntup {ts : List Expr} {k : Nat} {p : Pos} {e : Expr} {env : Env} (h : ntup e = true) : swappedStores [.Tuple ts k p] e env = pure none := by
  cases e <;> first | rfl | cases h
theorem sst_sub {a b : Expr} {p : Pos} {e : Expr} {env : Env} : swappedStores [.Subscript a b p] e env = pure none := by
  cases e <;> rfl
theorem sst_no {ts vs : List Expr} {k k2 : Nat} {p p2 : Pos} {env : Env} (h : parNo ts vs = true) : swappedStores [.Tuple ts k p] (.Tuple vs k2 p2) env = pure none := by
  unfold parNo at h
  unfold swappedStores
  simp only [Bool.or_eq_true, Bool.and_eq_true] at h
  dsimp only
  rcases h with h | ⟨h, h2⟩
  · rw [if_pos (by rw [h]; rfl)]
  · split
    · rfl
    · split
      · rfl
      · split
        · rfl
        · first | rfl | rw [if_pos h]
theorem star_no {a : Expr} (h : nst a = true) : (match (generalizing := false) a with | .Starred .. => true | _ => false) = false := by
  cases a <;> first | rfl | cases h
theorem sst_par2 {x y : Str} {px py pt p2 : Pos} {a b : Expr} {k k2 : Nat} {env : Env} (hk : env.blockKind = .function) (ha : nst a = true) (hb : nst b = true) (hx : env.kindOf x = some .local) (hy : env.kindOf y = some .local) (hl : (py.line == px.line) = true) (hxy : x ≠ y)
    (h1 : [a, b].all (foldedForSure 8) = false) (h2 : [a, b].all (constantsAlone 8) = false) : swappedStores [.Tuple [.Name x px, .Name y py] k pt] (.Tuple [a, b] k2 p2) env = pure (some [x, y]) := by
  unfold swappedStores
  have s0 : ([a, b].any fun | .Starred .. => true | _ => false) = false := by
    rw [List.any_cons, List.any_cons, List.any_nil, star_no ha, star_no hb]; rfl
  dsimp only
  rw [if_neg (by rw [hk]; simp), if_neg (fun hh => by have z := hh.symm.trans s0; cases z)]
  generalize hn : List.filterMap _ _ = nm
  have e : nm = [x, y] := by
    rw [← hn]
    have hl' : py.line = px.line := by simpa using hl
    simp [Expr.pos, hx, hy, hl']
  subst e
  have b1 : (y == x) = false := beq_eq_false_iff_ne.mpr (Ne.symm hxy)
  rw [if_neg (by simp [List.eraseDups, List.eraseDupsBy, List.eraseDupsBy.loop, b1]), if_neg (by rw [h1]; exact Bool.false_ne_true), if_neg (by rw [h2]; exact Bool.false_ne_true)]
theorem sst_par3 {x y z : Str} {px py pz pt p2 : Pos} {a b c : Expr} {k k2 : Nat} {env : Env} (hk : env.blockKind = .function) (ha : nst a = true) (hb : nst b = true) (hc : nst c = true) (hx : env.kindOf x = some .local) (hy : env.kindOf y = some .local) (hz : env.kindOf z = some .local)
    (hl : (py.line == px.line) = true) (hl2 : (pz.line == px.line) = true) (hxy : x ≠ y) (hxz : x ≠ z) (hyz : y ≠ z)
    (h1 : [a, b, c].all (foldedForSure 8) = false) (h2 : [a, b, c].all (constantsAlone 8) = false) : swappedStores [.Tuple [.Name x px, .Name y py, .Name z pz] k pt] (.Tuple [a, b, c] k2 p2) env = pure (some [x, y, z]) := by
  unfold swappedStores
  have s0 : ([a, b, c].any fun | .Starred .. => true | _ => false) = false := by
    rw [List.any_cons, List.any_cons, List.any_cons, List.any_nil, star_no ha, star_no hb, star_no hc]; rfl
  dsimp only
  rw [if_neg (by rw [hk]; simp), if_neg (fun hh => by have z := hh.symm.trans s0; cases z)]
  generalize hn : List.filterMap _ _ = nm
  have e : nm = [x, y, z] := by
    rw [← hn]
    have hl' : py.line = px.line := by simpa using hl
    have hl2' : pz.line = px.line := by simpa using hl2
    simp [Expr.pos, hx, hy, hz, hl', hl2']
  subst e
  have b1 : (y == x) = false := beq_eq_false_iff_ne.mpr (Ne.symm hxy)
  have b2 : (z == x) = false := beq_eq_false_iff_ne.mpr (Ne.symm hxz)
  have b3 : (z == y) = false := beq_eq_false_iff_ne.mpr (Ne.symm hyz)
  rw [if_neg (by simp [List.eraseDups, List.eraseDupsBy, List.eraseDupsBy.loop, b1, b2, b3]), if_neg (by rw [h1]; exact Bool.false_ne_true), if_neg (by rw [h2]; exact Bool.false_ne_true)]
end Tg
namespace Tg
open PySem PySem.Spec PyProof.Rows L2
section
variable {T : Tb} {Φ : Fs} {ev : Nat → Value} {w : Wx} {s : Sc} {X : Cx}
theorem loc_of (G : Good T Φ w ev s X) {i : Nat} {x : Str} (h : ckLoc T s i x = true) : X.N[i]? = some x ∧ L2.Loc X.env.scope x ∧ (X.fn x = true ∨ X.env.scope.names.lookup x = some .local) := by
  unfold ckLoc at h
  simp only [Bool.and_eq_true, Bool.or_eq_true, decide_eq_true_eq] at h
  obtain ⟨h1, h2⟩ := h
  refine ⟨by rw [G.N]; exact h1, ?_, ?_⟩
  · unfold L2.Loc; rw [G.sc]
    rcases h2 with h2 | h2
    · exact .inl h2
    · exact .inr h2.1
  · rcases h2 with h2 | h2
    · right; rw [G.sc]; exact h2
    · left; rw [G.fn]; exact h2.2
theorem ck_lc {m : E} {elt : Expr} {gs : List Comprehension} {scope : Scope} {pos : Pos} (h : ckE T m s (.ListComp elt gs scope pos) = true) : ∃ a t k es c own, m = .lc a t k es c own := by
  cases m <;> first | exact ⟨_, _, _, _, _, _, rfl⟩ | simp [ckE] at h
theorem ck_nm {t : Tg} {x : Str} {p : Pos} (h : ckT T s t (.Name x p) = true) : ∃ i, t = .nm i ∧ ckLoc T s i x = true := by
  cases t with
  | nm i => exact ⟨i, rfl, by simpa only [ckT] using h⟩
  | tp ts => simp [ckT] at h
theorem ps_name {i : Nat} {m : E} {x : Str} {p pos : Pos} {e : Expr} (G : Good T Φ w ev s X) (h1 : ckLoc T s i x = true) (h2 : ckE T m s e = true) :
    PS X (.Assign [.Name x p] e pos) (tAsg (tE X.K w Φ m) (gName i)) := by
  obtain ⟨hi, hl, hf⟩ := loc_of G h1
  have nd : X.N.Nodup := by rw [G.N]; exact G.nd
  by_cases hn : nlc e = true
  · exact ps_set nd hi hl (snd m w s X e G h2).1 (sw_none hn) hf
  · cases e <;> first | (exact absurd rfl hn) | (exfalso; cases m <;> simp [ckE] at h2; done) | skip
    rename_i elt gs scope pos2
    obtain ⟨a, t, k, es, c, own, rfl⟩ := ck_lc h2
    by_cases hsw : (X.env.blockKind == .function && X.env.kindOf x == some .local && p.line == pos2.line && !(scope.names.any fun (n, k) => n == x && (k == .local || k == .cell))) = true
    · obtain ⟨elt', tg, iter, ifs, scope', pos', e', hi', ok, hg, ht, he, hns, ho, hs⟩ := snd_lcP (snd a) (sndAll es) (sndAll c) G h2
      cases e'
      have hyl : X.env.scope.names.lookup x = some .local := by
        simp only [Bool.and_eq_true] at hsw
        have := hsw.1.1.2
        exact beq_iff_eq.mp this
      refine ps_weak (ps_setLc G.calm nd hi hyl (by rw [sw_lc, hsw]) hi' ok hg ht he (nset_fold hns)) fun D σ H q => ?_
      have q' : tE X.K w Φ (.lc a t k es c own) σ H (fun x H1 => D.nx (σ.set i (some x)) H1) := q
      show tLc _ _ _ _ _ σ H _
      rw [ho]
      exact tLc_of hs q'
    · exact ps_set nd hi hl (snd _ w s X _ G h2).1 (by rw [sw_lc, Bool.eq_false_iff.mpr hsw]) hf
theorem asg_E {K : PySem.W.Frag} {H0 F0 H F : Hp} {σ : L2.St} {ρ : En} {r : M B} {D : Ends} {Q : VK} (R : StR K H0 F0 σ H F ρ) {f : B → M Out} (h : AfS K w H0 F0 F (do let b ← r; f b) D)
    (q : ∀ b v H' F', f b = f b → AfS K w H0 F0 F (f b) D → Gr H F H' F' → RepB K H' F' b v → NewB H b v → Q v H') : AfE K w σ H F r Q := by
  cases r with
  | stuck => exact h
  | ex c => exact fun H' F' g => h σ H' F' (R.gr.trans g)
  | ok b => exact fun v H' F' g rp nw => q b v H' F' rfl h g rp nw
theorem sS_set {i : Nat} {m : E} : SndS T Φ ev (.set i m) := fun w s X st G hS h => by
  unfold ckS at h
  split at h
  rotate_left
  · cases h
  rename_i tg e pos
  unfold ckAsg at h
  dsimp only at h
  split at h
  rotate_left
  · cases h
  rename_i x p
  simp only [Bool.and_eq_true] at h
  refine ps_weak (ps_name G h.1.1 h.1.2) fun D σ H ⟨H0, F0, F, ρ, R, a⟩ => ?_
  refine ⟨H0, F0, F, ρ, R, ?_⟩
  simp only [exS] at a
  exact asg_E R a fun b v H' F' _ a' g rp nw => a' _ H' F' (R.setB g i rp nw) g.f
theorem sS_asg {t : Tg} {m : E} : SndS T Φ ev (.asg t m) := fun w s X st G hS h => by
  unfold ckS at h
  split at h
  rotate_left
  · cases h
  rename_i tg e pos
  unfold ckAsg at h
  cases t with
  | nm i =>
    dsimp only at h
    split at h
    rotate_left
    · cases h
    rename_i x p
    simp only [Bool.and_eq_true] at h
    refine ps_weak (ps_name G h.1.1 h.1.2) fun D σ H ⟨H0, F0, F, ρ, R, a⟩ => ?_
    refine ⟨H0, F0, F, ρ, R, ?_⟩
    simp only [exS] at a
    refine asg_E R a fun b v H' F' _ a' g rp nw => ?_
    obtain ⟨F2, g2, dq⟩ := rp.freeze g nw
    exact a' _ H' F2 ((R.grow g2).setV i dq) g2.f
  | tp ts =>
    dsimp only at h
    split at h
    rotate_left
    · cases h
    rename_i es k p
    simp only [Bool.and_eq_true] at h
    obtain ⟨⟨⟨h1, h2⟩, h3⟩, h4⟩ := h
    have plainCase : swappedStores [.Tuple es k p] e X.env = pure none → PS X (.Assign [.Tuple es k p] e pos) (tS X.K w Φ (.asg (.tp ts) m)) := fun hsw => by
      have hp : PG X (.Tuple es k p) (gT X.K (.tp ts)) := pgT (.tp ts) G (by unfold ckT; exact h1)
      refine ps_weak (ps_asg (snd m w s X e G h2).1 hp (sw_sole h3) hsw rfl) fun D σ H ⟨H0, F0, F, ρ, R, a⟩ => ?_
      refine ⟨H0, F0, F, ρ, R, ?_⟩
      simp only [exS] at a
      refine asg_E R a fun b v H' F' _ a' g rp nw => ?_
      obtain ⟨F2, g2, dq⟩ := rp.freeze g nw
      cases e1 : bindT (.tp ts) b.d ρ with
      | stuck => rw [e1] at a'; exact a'.elim
      | ex c => 
        rw [e1] at a'
        exact (bindT_noex e1).elim
      | ok ρ1 =>
        rw [e1, bind_ok] at a'
        exact ⟨H0, F0, F2, ρ, b.d, ρ1, R.grow g2, dq, e1, fun σ' R' _ => a' σ' H' F2 R' g2.f⟩
    by_cases hnt : ntup e = true
    · exact plainCase (sst_ntup hnt)
    · cases e <;> try (exact absurd rfl hnt)
      rename_i vs k2 p2
      dsimp only at h4
      rw [Bool.and_eq_true, Bool.or_eq_true] at h4
      obtain ⟨hfk, h4⟩ := h4
      rcases h4 with h4 | h4
      rotate_left
      · exact plainCase (sst_no h4)
      obtain ⟨ms, rfl⟩ : ∃ ms, m = .tup ms := by
        cases m <;> first | exact ⟨_, rfl⟩ | simp [ckE] at h2
      simp only [ckE, Bool.and_eq_true] at h2
      have hbk : X.env.blockKind = .function := blockKind_fn (by rw [G.sc]; exact fnK_ok hfk)
      have nd : X.N.Nodup := by rw [G.N]; exact G.nd
      unfold parOk at h4
      split at h4
      · rename_i x px y py a b
        simp only [Bool.and_eq_true, decide_eq_true_eq, Bool.not_eq_true'] at h4
        obtain ⟨⟨⟨⟨⟨⟨⟨na, nb⟩, kx⟩, ky⟩, hl⟩, hxy⟩, hf⟩, hc⟩ := h4
        have kx' : X.env.kindOf x = some .local := by show X.env.scope.names.lookup x = _; rw [G.sc]; exact kx
        have ky' : X.env.kindOf y = some .local := by show X.env.scope.names.lookup y = _; rw [G.sc]; exact ky
        have hxy' : x ≠ y := by intro e; subst e; simp at hxy
        have hpl := ckTs_all h1
        match ts, h1, hpl with
        | [t1, t2], h1, _ =>
          simp only [ckTs, Bool.and_eq_true] at h1
          obtain ⟨i, rfl, c1⟩ := ck_nm h1.1.2
          obtain ⟨j, rfl, c2⟩ := ck_nm h1.2.1.2
          obtain ⟨hi, _, _⟩ := loc_of G c1
          obtain ⟨hj, _, _⟩ := loc_of G c2
          have hij : i ≠ j := fun e => by subst e; rw [hi] at hj; cases hj; exact hxy' rfl
          refine ps_weak (ps_par G.calm nd hi hj hij kx' ky' (sndL (sndAll ms) G h2.2) (sst_par2 hbk na nb kx' ky' hl hxy' hf hc) (sw_sole (e := .Tuple _ _ _) rfl)) fun D σ H ⟨H0, F0, F, ρ, R, a⟩ => ?_
          refine ⟨H0, F0, F, ρ, R, ?_⟩
          simp only [exS, evE] at a
          cases e1 : evL Φ ρ ms with
          | stuck => rw [e1] at a; exact a
          | ex c => rw [e1] at a; exact fun H' F' g => a σ H' F' (R.gr.trans g)
          | ok ds =>
            rw [e1] at a
            intro us H1 F1 g1 dq
            have hlen := evL_len e1
            have hml := ckL_len h2.2
            match ds, dq with
            | [d1, d2], .cons q1 (.cons q2 .nil) =>
              refine ⟨_, _, rfl, ?_⟩
              simp only [bind_ok, B.d, bindT, bindTs] at a
              exact a _ H1 F1 (((R.grow g1).setV i q1).setV j q2) g1.f
            | [], _ => rw [hml] at hlen; simp at hlen
            | [_], _ => rw [hml] at hlen; simp at hlen
            | _ :: _ :: _ :: _, _ => rw [hml] at hlen; simp at hlen
        | [], _, hpl => simp at hpl
        | [_], _, hpl => simp at hpl
        | _ :: _ :: _ :: _, _, hpl => simp at hpl
      · rename_i x px y py z pz a b c
        simp only [Bool.and_eq_true, decide_eq_true_eq, Bool.not_eq_true'] at h4
        obtain ⟨⟨⟨⟨⟨⟨⟨⟨⟨⟨⟨⟨na, nb⟩, nc⟩, kx⟩, ky⟩, kz⟩, hl⟩, hl2⟩, hxy⟩, hxz⟩, hyz⟩, hf⟩, hc⟩ := h4
        have kx' : X.env.kindOf x = some .local := by show X.env.scope.names.lookup x = _; rw [G.sc]; exact kx
        have ky' : X.env.kindOf y = some .local := by show X.env.scope.names.lookup y = _; rw [G.sc]; exact ky
        have kz' : X.env.kindOf z = some .local := by show X.env.scope.names.lookup z = _; rw [G.sc]; exact kz
        have hxy' : x ≠ y := by intro e; subst e; simp at hxy
        have hxz' : x ≠ z := by intro e; subst e; simp at hxz
        have hyz' : y ≠ z := by intro e; subst e; simp at hyz
        have hpl := ckTs_all h1
        match ts, h1, hpl with
        | [t1, t2, t3], h1, _ =>
          simp only [ckTs, Bool.and_eq_true] at h1
          obtain ⟨i, rfl, c1⟩ := ck_nm h1.1.2
          obtain ⟨j, rfl, c2⟩ := ck_nm h1.2.1.2
          obtain ⟨l, rfl, c3⟩ := ck_nm h1.2.2.1.2
          obtain ⟨hi, _, _⟩ := loc_of G c1
          obtain ⟨hj, _, _⟩ := loc_of G c2
          obtain ⟨hk, _, _⟩ := loc_of G c3
          have hij : i ≠ j := fun e => by subst e; rw [hi] at hj; cases hj; exact hxy' rfl
          have hik : i ≠ l := fun e => by subst e; rw [hi] at hk; cases hk; exact hxz' rfl
          have hjk : j ≠ l := fun e => by subst e; rw [hj] at hk; cases hk; exact hyz' rfl
          refine ps_weak (ps_par3 G.calm nd hi hj hk hij hik hjk kx' ky' kz' (sndL (sndAll ms) G h2.2) (sst_par3 hbk na nb nc kx' ky' kz' hl hl2 hxy' hxz' hyz' hf hc) (sw_sole (e := .Tuple _ _ _) rfl)) fun D σ H ⟨H0, F0, F, ρ, R, a⟩ => ?_
          refine ⟨H0, F0, F, ρ, R, ?_⟩
          simp only [exS, evE] at a
          cases e1 : evL Φ ρ ms with
          | stuck => rw [e1] at a; exact a
          | ex c => rw [e1] at a; exact fun H' F' g => a σ H' F' (R.gr.trans g)
          | ok ds =>
            rw [e1] at a
            intro us H1 F1 g1 dq
            have hlen := evL_len e1
            have hml := ckL_len h2.2
            match ds, dq with
            | [d1, d2, d3], .cons q1 (.cons q2 (.cons q3 .nil)) =>
              refine ⟨_, _, _, rfl, ?_⟩
              simp only [bind_ok, B.d, bindT, bindTs] at a
              exact a _ H1 F1 ((((R.grow g1).setV i q1).setV j q2).setV l q3) g1.f
            | [], _ => rw [hml] at hlen; simp at hlen
            | [_], _ => rw [hml] at hlen; simp at hlen
            | [_, _], _ => rw [hml] at hlen; simp at hlen
            | _ :: _ :: _ :: _ :: _, _ => rw [hml] at hlen; simp at hlen
        | [], _, hpl => simp at hpl
        | [_], _, hpl => simp at hpl
        | [_, _], _, hpl => simp at hpl
        | _ :: _ :: _ :: _ :: _, _, hpl => simp at hpl
      · cases h4
end
theorem add_ll' {xs ys : List D} : bopD .add (.list xs) (.list ys) = if lineOk (xs.length + ys.length) then .ok (.own (xs ++ ys)) else .stuck := rfl
section
variable {T : Tb} {Φ : Fs} {ev : Nat → Value} {w : Wx} {s : Sc} {X : Cx} {a : Addr} {oe : Obj} {pn : List (Addr × Obj)} {Dx : Addr} {d i : Nat} {n : Str}
theorem pe_cls {Y : Cx} {x : Str} {pos : Pos} {c : V} {cv : Value} (hg : Gl Y x) (hd : (x == ("__debug__" : Str)) = false) (h : NmIs Y.mg x c cv) : PE Y (.Name x pos) (L2.tC c) := by
  obtain ⟨h1, h2, h3 | ⟨h3, h4, h5⟩⟩ := h
  · exact pe_glob hg h3 h1 hd
  · exact pe_bltn hg h3 h4 h1 h5 hd
structure InSu (T : Tb) (ev : Nat → Value) (s : Sc) (X : Cx) (oe : Obj) (Dx : Addr) (d i : Nat) (n : Str) : Prop where
  N : X.N = T.N
  nd : T.N.Nodup
  ni : T.N[i]? = some n
  nv : Vis X.env.scope n
  n1 : (n == ("__debug__" : Str)) = false
  n2 : (n == ("__classdict__" : Str)) = false
  sc : X.env.scope = s.sc
  fn : X.fn = s.fn
  ed : ev d = .ref Dx
  ec : ExcC X.K Dx
  hz : Zc (.ref Dx) none oe
  hf : ∃ vs, oe.data = Data.fields vs
  blt : ∀ x ∈ bltNames, X.mg x = none
  kit : ∀ (d : Nat) (x : Str) (b : Bool), (d, x, b) ∈ T.kit → KitAt X.K X.mg ev d x b
theorem InSu.gl (I : InSu T ev s X oe Dx d i n) {x : Str} (h : ckGl s x = true) : Gl X x ∧ (x == ("__debug__" : Str)) = false := by
  unfold ckGl at h
  simp only [Bool.and_eq_true, decide_eq_true_eq, Bool.not_eq_true'] at h
  refine ⟨?_, h.2⟩
  show X.env.scope.names.lookup x = _
  rw [I.sc]; exact h.1
def tEi (a : Addr) (i : Nat) (b : Bool) : TE := fun σ H Q => σ[i]? = some (some (.ref a)) ∧ Q (.bl b) H
theorem call_isET {X : Cx} {a Dx : Addr} {oe : Obj} {pn : List (Addr × Obj)} (C : ExcC X.K Dx) (hz : Zc (.ref Dx) none oe) (hf : ∃ vs, oe.data = Data.fields vs) :
    CallR (X.suite a ((a, oe) :: pn)) (.builtin "isinstance") (fun xs H Q => ∃ tp cs us b, xs = [V.ref a, .ref tp] ∧ H tp = some (.tup cs) ∧ (∀ ws, Vals cs ws → ws = us) ∧ PySem.W.kitAny X.K (.ref Dx) us = some b ∧ Q (.bl b) H) := by
  intro pins s σ H xs us Q I r h
  obtain ⟨tp, cs, us0, b, rfl, ht, hu, hk, q⟩ := h
  match us, r with
  | [u1, u2], .cons r1 (.cons r2 .nil) =>
    cases r1
    cases r2
    obtain ⟨p1, p2, p3, p4, p5⟩ := I.pin (a, oe) (by simp)
    obtain ⟨its, rv, ⟨⟨cls, dd, data, sl⟩, e1, e2, m, e3⟩, hl⟩ := I.tuple (.inl (.inl ht))
    simp only at e2 e3
    subst e2 e3
    have := hu _ rv
    subst this
    refine PySem.W.kia_tup (PySem.W.handS_kitx_exc (x := a) (ox := oe) C.hg C.hk C.hs C.hd C.ha C.hn C.ht C.hm) I.kIn ?_ e1 hk (by intro z; cases z) fun tk => ?_
    · obtain ⟨cls, dd, data, sl⟩ := oe
      obtain ⟨z1, z2⟩ := hz
      simp only at z1 z2
      subst z1 z2
      obtain ⟨vs, hv⟩ := hf
      simp only at hv
      subst hv
      exact ⟨p1, rfl, rfl, trivial⟩
    · exact ⟨.bl b, H, I.tok tk, rfl, q⟩
theorem pe_isE1 (I : InSu T ev s X oe Dx d i n) {b : Bool} {e : Expr} (h : ckIs T s d n b e = true) : PE (X.suite a ((a, oe) :: pn)) e (tEi a i b) := by
  unfold ckIs at h
  split at h
  rotate_left
  · cases h
  rename_i f p y p2 x p3 p4
  simp only [Bool.and_eq_true, decide_eq_true_eq, List.contains_iff_mem] at h
  obtain ⟨⟨⟨⟨rfl, hg⟩, rfl⟩, hgx⟩, hk⟩ := h
  obtain ⟨D', c, cv, e1, hn, hk⟩ := (I.kit _ _ _ hk).ex
  have := e1.symm.trans I.ed
  cases this
  have gx := I.gl hgx
  have gf := I.gl hg
  refine pe_weak (pe_callB (call_isE I.ec I.hz I.hf) gf.1 (I.blt _ (by simp [bltNames])) (by decide +kernel) (pa_cons (pe_var (i := i) (show (X.suite a ((a, oe) :: pn)).N[i]? = _ from by rw [show (X.suite a ((a, oe) :: pn)).N = X.N from rfl, I.N]; exact I.ni) I.nv I.n1 I.n2) (pa_cons (pe_cls gx.1 gx.2 hn) pa_nil rfl) rfl) (by decide) gf.2 rfl rfl) fun σ H Q ⟨h1, h2⟩ => ?_
  exact ⟨_, h1, c, cv, b, rfl, hn.2.1, hk, h2⟩
def tCs (cs : List V) : TA := fun σ H Q => Q cs H
theorem pa_nms (I : InSu T ev s X oe Dx d i n) : ∀ {xs : List Expr}, ckNms T s d xs = true → ∃ cs us, PA (X.suite a ((a, oe) :: pn)) xs (tCs cs) ∧ (∀ ws, Vals cs ws → ws = us) ∧ PySem.W.kitAny X.K (.ref Dx) us = some false ∧ cs.length = xs.length
  | [], _ => ⟨[], [], pa_weak pa_nil fun σ H Q q => q, fun ws h => by cases h; rfl, rfl, rfl⟩
  | e :: r, h => by
    unfold ckNms at h
    split at h
    · rename_i e; cases e
    · rename_i x p r' e
      cases e
      simp only [Bool.and_eq_true, List.contains_iff_mem] at h
      obtain ⟨⟨hg, hk⟩, hr⟩ := h
      obtain ⟨cs, us, h1, h2, h3, h4⟩ := pa_nms I hr
      obtain ⟨D', c, cv, e1, hn, hk⟩ := (I.kit _ _ _ hk).ex
      have := e1.symm.trans I.ed
      cases this
      have gx := I.gl hg
      refine ⟨c :: cs, cv :: us, pa_weak (pa_cons (pe_cls gx.1 gx.2 hn) h1 rfl) fun σ H Q q => q, fun ws h => ?_, ?_, by rw [List.length_cons, List.length_cons, h4]⟩
      · cases h with
        | cons r1 r2 => rw [hn.2.1 _ r1, h2 _ r2]
      · show (match PySem.W.kitOne X.K (.ref Dx) cv with
          | some true => some true
          | some false => PySem.W.kitAny X.K (.ref Dx) us
          | none => none) = some false
        rw [hk]; exact h3
    · cases h
theorem pe_isET (I : InSu T ev s X oe Dx d i n) {b : Bool} {e : Expr} (h : ckIsT T s d n b e = true) : PE (X.suite a ((a, oe) :: pn)) e (fun σ H Q => σ[i]? = some (some (.ref a)) ∧ ∀ p cs, H p = none → Q (.bl b) (upd H p (.tup cs))) := by
  unfold ckIsT at h
  split at h
  rotate_left
  · cases h
  rename_i f p y p2 xs k p3 p4
  simp only [Bool.and_eq_true, decide_eq_true_eq, Bool.not_eq_true'] at h
  obtain ⟨⟨⟨⟨⟨rfl, rfl⟩, hg⟩, rfl⟩, hl⟩, hk⟩ := h
  obtain ⟨cs, us, h1, h2, h3, h4⟩ := pa_nms (a := a) (pn := pn) I hk
  have gf := I.gl hg
  refine pe_weak (pe_callB (call_isET I.ec I.hz I.hf) gf.1 (I.blt _ (by simp [bltNames])) (by decide +kernel) (pa_cons (pe_var (i := i) (show (X.suite a ((a, oe) :: pn)).N[i]? = _ from by rw [show (X.suite a ((a, oe) :: pn)).N = X.N from rfl, I.N]; exact I.ni) I.nv I.n1 I.n2) (pa_cons (pe_tup h1) pa_nil rfl) rfl) (by decide) gf.2 rfl rfl) fun σ H Q ⟨q1, q2⟩ => ?_
  refine ⟨_, q1, by rw [h4]; exact line_small hl, fun p hp => ?_⟩
  exact ⟨p, cs, us, false, rfl, upd_same, h2, h3, q2 p cs hp⟩
theorem pa_iss (I : InSu T ev s X oe Dx d i n) : ∀ {bs : List Bool} {es : List Expr}, ckIss T s d n bs es = true → PA (X.suite a ((a, oe) :: pn)) es (fun σ H Q => σ[i]? = some (some (.ref a)) ∧ Q (bs.map V.bl) H)
  | [], es, h => by
    cases es with
    | cons => simp [ckIss] at h
    | nil => exact pa_weak pa_nil fun σ H Q q => q.2
  | b :: bs, es, h => by
    cases es with
    | nil => simp [ckIss] at h
    | cons e r =>
      simp only [ckIss, Bool.and_eq_true] at h
      have hn : nst e = true := by
        have h1 := h.1
        unfold ckIs at h1
        split at h1
        · rfl
        · cases h1
      exact pa_weak (pa_cons (pe_isE1 I h.1) (pa_iss I h.2) (star_cons hn)) fun σ H Q ⟨q1, q2⟩ => ⟨q1, q1, q2⟩
theorem dq_bools {K : PySem.W.Frag} {F : Hp} : ∀ bs : List Bool, DqAll K F (bs.map V.bl) (bs.map PyData.bool)
  | [] => .nil
  | b :: bs => .cons (.bl b) (dq_bools bs)
def tSu (K : PySem.W.Frag) (a : Addr) (i : Nat) (m : SuE) : TE := fun σ H Q => ∃ H0 F0 F ρ, StR K H0 F0 σ H F ρ ∧ σ[i]? = some (some (.ref a)) ∧ ∃ x, suD ρ m = .ok x ∧ ∀ v H' F', Gr H F H' F' → Dq K F' v x → Q v H'
theorem pe_su (I : InSu T ev s X oe Dx d i n) {m : SuE} {e : Expr} (h : ckSu T s d n m e = true) : PE (X.suite a ((a, oe) :: pn)) e (tSu X.K a i m) := by
  cases m with
  | is b =>
    simp only [ckSu, Bool.or_eq_true] at h
    rcases h with h | h
    · refine pe_weak (pe_isE1 I h) fun σ H Q ⟨H0, F0, F, ρ, R, q1, x, q2, q3⟩ => ⟨q1, ?_⟩
      cases q2
      exact q3 _ _ F (.refl R.s) (.bl b)
    · refine pe_weak (pe_isET I h) fun σ H Q ⟨H0, F0, F, ρ, R, q1, x, q2, q3⟩ => ⟨q1, fun p cs hp => ?_⟩
      cases q2
      exact q3 _ _ _ (.mine R.s hp) (.bl b)
  | two =>
    unfold ckSu at h
    dsimp only at h
    split at h
    rotate_left
    · cases h
    rename_i x y p
    rw [Bool.and_eq_true] at h
    refine pe_weak (pe_and (pe_isE1 I h.1) (pe_one (pe_isE1 I h.2))) fun σ H Q ⟨H0, F0, F, ρ, R, q1, x, q2, q3⟩ => ⟨q1, true, rfl, ?_⟩
    cases q2
    rw [if_pos rfl]
    exact ⟨q1, q3 _ _ F (.refl R.s) (.bl true)⟩
  | lst bs =>
    unfold ckSu at h
    dsimp only at h
    split at h
    rotate_left
    · cases h
    rename_i xs p
    rw [Bool.and_eq_true] at h
    refine pe_weak (pe_lst (pa_iss I h.2)) fun σ H Q ⟨H0, F0, F, ρ, R, q1, x, q2, q3⟩ => ⟨q1, ?_, fun p hp => ?_⟩
    · rw [List.length_map]; exact line_small (of_decide_eq_true h.1)
    · cases q2
      have hp2 := R.s.free hp
      exact q3 _ _ _ (.lay R.s hp) (.lst (.of upd_same) (dq_bools bs))
  | cat j bs =>
    unfold ckSu at h
    dsimp only at h
    split at h
    rotate_left
    · cases h
    rename_i y p1 xs p2 p3
    simp only [Bool.and_eq_true, decide_eq_true_eq] at h
    obtain ⟨⟨h1, h2⟩, h3⟩ := h
    unfold ckVis at h1
    simp only [Bool.and_eq_true, Bool.or_eq_true, decide_eq_true_eq, Bool.not_eq_true'] at h1
    obtain ⟨⟨⟨k1, k2⟩, k3⟩, k4⟩ := h1
    have kv : Vis (X.suite a ((a, oe) :: pn)).env.scope y := by
      show Vis X.env.scope y
      unfold Vis
      rw [I.sc]
      rcases k2 with (k2 | k2) | k2
      · exact .inl k2
      · exact .inr (.inl k2)
      · exact .inr (.inr k2)
    refine pe_weak (pe_op (op_bop .add) (pe_var (i := j) (show (X.suite a ((a, oe) :: pn)).N[j]? = _ from by rw [show (X.suite a ((a, oe) :: pn)).N = X.N from rfl, I.N]; exact k1) kv k3 k4) (pe_lst (pa_iss I h3))) fun σ H Q ⟨H0, F0, F, ρ, R, q1, x, q2, q3⟩ => ?_
    simp only [suD] at q2
    unfold suCat at q2
    split at q2
    rotate_left
    · cases q2
    rename_i ys ej
    split at q2
    rotate_left
    · cases q2
    rename_i hl
    cases q2
    obtain ⟨v, e1, e2⟩ := R.val j _ ej
    refine ⟨v, e1, q1, by rw [List.length_map]; exact line_small h2, fun p hp => ?_⟩
    have g1 : Gr H F (upd H p (.lst (bs.map V.bl))) (upd F p (.lst (bs.map V.bl))) := .lay R.s hp
    refine ⟨_, .list ys, .list (bs.map PyData.bool), g1.s, .inl (Dq.mono g1.f _ _ e2), .inl (.lst (.of upd_same) (dq_bools bs)), ?_⟩
    rw [add_ll', if_pos (by rw [List.length_map]; exact hl)]
    intro z H2 F2 g2 rp nw
    obtain ⟨F3, g3, dq⟩ := rp.freeze g2 nw
    exact q3 z H2 F3 (g1.trans g3) dq
  | con b =>
    unfold ckSu at h
    dsimp only at h
    split at h
    rotate_left
    · cases h
    have := of_decide_eq_true h
    subst this
    refine pe_weak pe_bl fun σ H Q ⟨H0, F0, F, ρ, R, q1, x, q2, q3⟩ => ?_
    cases q2
    exact q3 _ _ F (.refl R.s) (.bl b)
theorem runSu_cons {ρ : En} {j : Nat} {m : SuE} {r : List (Nat × SuE)} {ρ2 : En} (h : runSu i ρ ((j, m) :: r) = .ok ρ2) : ∃ x, suD ρ m = .ok x ∧ runSu i (ρ.set j (some (.val x))) r = .ok ρ2 := by
  simp only [runSu] at h
  cases e : suD ρ m with
  | stuck => rw [e] at h; cases h
  | ex c => rw [e] at h; cases h
  | ok x => rw [e] at h; exact ⟨x, rfl, h⟩
theorem suD_noex {ρ : En} {m : SuE} {c : Nat} (h : suD ρ m = .ex c) : False := by
  cases m <;> simp only [suD] at h <;> try (cases h)
  unfold suCat at h
  split at h
  · split at h <;> cases h
  · cases h
theorem runSu_noex : ∀ {sts : List (Nat × SuE)} {ρ : En} {c : Nat}, runSu i ρ sts = .ex c → False
  | [], ρ, c, h => by cases h
  | (j, m) :: r, ρ, c, h => by
    simp only [runSu] at h
    cases e : suD ρ m with
    | stuck => rw [e] at h; cases h
    | ex c => exact suD_noex e
    | ok x => rw [e] at h; exact runSu_noex h
theorem pss_su (I : InSu T ev s X oe Dx d i n) : ∀ {sts : List (Nat × SuE)} {ys : List Stmt}, ckSus T s d i n sts ys = true →
    PSs (X.suite a ((a, oe) :: pn)) ys (fun D σ H => ∃ H0 F0 F ρ ρ2, StR X.K H0 F0 σ H F ρ ∧ σ[i]? = some (some (.ref a)) ∧ runSu i ρ sts = .ok ρ2 ∧ ∀ σ' H' F', StR X.K H0 F0 (σ'.set i none) H' F' ρ2 → Same F F' → D.nx σ' H')
  | [], ys, h => by
    cases ys with
    | cons => simp [ckSus] at h
    | nil =>
      refine pss_weak pss_nil fun D σ H ⟨H0, F0, F, ρ, ρ2, R, q1, q2, q3⟩ => ?_
      cases q2
      exact q3 σ H F (R.wipe1 i) (.refl _)
  | (j, m) :: r, ys, h => by
    unfold ckSus at h
    split at h
    rotate_left
    · cases h
    rename_i x p e p2 q
    simp only [Bool.and_eq_true, decide_eq_true_eq] at h
    obtain ⟨⟨⟨⟨hj, h1⟩, h2⟩, h3⟩, h4⟩ := h
    unfold ckLoc at h1
    simp only [Bool.and_eq_true, Bool.or_eq_true, decide_eq_true_eq] at h1
    obtain ⟨k1, k2⟩ := h1
    have hl : L2.Loc (X.suite a ((a, oe) :: pn)).env.scope x := by
      show L2.Loc X.env.scope x
      unfold L2.Loc; rw [I.sc]
      rcases k2 with k2 | k2
      · exact .inl k2
      · exact .inr k2.1
    have hf : (X.suite a ((a, oe) :: pn)).fn x = true ∨ (X.suite a ((a, oe) :: pn)).env.scope.names.lookup x = some .local := by
      show X.fn x = true ∨ X.env.scope.names.lookup x = some .local
      rcases k2 with k2 | k2
      · right; rw [I.sc]; exact k2
      · left; rw [I.fn]; exact k2.2
    have hN : (X.suite a ((a, oe) :: pn)).N[j]? = some x := by rw [show (X.suite a ((a, oe) :: pn)).N = X.N from rfl, I.N]; exact k1
    have nd : (X.suite a ((a, oe) :: pn)).N.Nodup := by rw [show (X.suite a ((a, oe) :: pn)).N = X.N from rfl, I.N]; exact I.nd
    refine pss_weak (pss_cons (ps_set nd hN hl (pe_su I h2) (sw_none h3) hf) (pss_su I h4)) fun D σ H ⟨H0, F0, F, ρ, ρ2, R, q1, q2, q3⟩ => ?_
    obtain ⟨y, e1, e2⟩ := runSu_cons q2
    refine ⟨H0, F0, F, ρ, R, q1, y, e1, fun v H' F' g dq => ?_⟩
    refine ⟨H0, F0, F', ρ.set j (some (.val y)), ρ2, (R.grow g).setV j dq, ?_, e2, fun σ' H2 F2 R2 s2 => q3 σ' H2 F2 R2 (g.f.trans s2)⟩
    rw [List.getElem?_set_ne hj]; exact q1
end
end Tg
namespace Tg
open PySem PySem.Spec PyProof.Rows L2
section
variable {T : Tb} {Φ : Fs} {ev : Nat → Value}
theorem sub_asg {X : Cx} {a b : Expr} {p : Pos} : (assignEach [.Subscript a b p] X.env).map (·.2) = [assign (.Subscript a b p) X.env] := rfl
theorem sS_put {i : Nat} {k m : E} : SndS T Φ ev (.put i k m) := fun w s X st G hS h => by
  unfold ckS at h
  split at h
  rotate_left
  · cases h
  rename_i x px y p e pos
  simp only [Bool.and_eq_true] at h
  obtain ⟨⟨⟨⟨h1, h2⟩, h3⟩, h4⟩, h5⟩ := h
  obtain ⟨v1, v2, v3, v4⟩ := vis_of G h1
  refine ps_weak (ps_asg (snd m w s X e G h3).1 (pg_sub (pe_var (i := i) v1 v2 v3 v4) (peB G h2 (snd k w s X y G h2).1) set_list (fun v => by cases y <;> first | rfl | cases h5)) (sw_sole h4) sst_sub sub_asg) fun D σ H ⟨H0, F0, F, ρ, R, a⟩ => ⟨H0, F0, F, ρ, R, ?_⟩
  simp only [exS] at a
  cases e1 : evE Φ ρ m with
  | stuck => rw [e1] at a; exact a
  | ex c => rw [e1] at a; exact fun H' F' g => a σ H' F' (R.gr.trans g)
  | ok b =>
    rw [e1, bind_ok] at a
    intro v H1 F1 g1 rp nw
    obtain ⟨F1', g1', dq⟩ := rp.freeze g1 nw
    have R1 := R.grow g1'
    unfold putD at a
    split at a
    rotate_left
    · exact a.elim
    rename_i xs e3
    obtain ⟨l, vs, f1, f2, f3, f4, f5⟩ := R1.own i xs e3
    refine ⟨.ref l, f1, H0, F0, F1', ρ, R1, ?_⟩
    cases e2 : bor ρ k (evE Φ ρ k) with
    | stuck => rw [e2] at a; exact a
    | ex c => rw [e2] at a; exact fun H' F' g => a σ H' F' (R1.gr.trans g)
    | ok d =>
      rw [e2, bind_ok] at a
      unfold putK at a
      split at a
      rotate_left
      · exact a.elim
      rename_i n
      intro iv H2 F2 g2 rb
      obtain rfl := rb.int
      unfold setAt at a
      split at a
      · rename_i j ej
        rw [bind_ok] at a
        have R2 := R1.grow g2
        obtain ⟨l', vs', f1', f2', f3', f4', f5'⟩ := R2.own i xs e3
        rw [f1] at f1'; cases f1'
        refine ⟨l, vs', n, j, rfl, rfl, f2', by rw [f5'.length]; exact ej, ?_⟩
        exact a _ _ F2 (R2.change e3 f1 (f5'.set j (Dq.mono g2.f _ _ dq))) (g1'.f.trans g2.f)
      · exact a.elim
theorem sS_app {i : Nat} {m : E} : SndS T Φ ev (.app i m) := fun w s X st G hS h => by
  unfold ckS at h
  split at h
  rotate_left
  · cases h
  rename_i x px a apos e cpos pos
  simp only [Bool.and_eq_true, decide_eq_true_eq] at h
  obtain ⟨⟨⟨h1, rfl⟩, h3⟩, h4⟩ := h
  obtain ⟨v1, v2, v3, v4⟩ := vis_of G h1
  have hn := ckE_nst h3
  refine ps_weak (ps_expr (pe_bm PySem.F.plainAttrs_list PySem.F.slot_list_append PySem.F.type_list_append mt_append (pe_var (i := i) v1 v2 v3 v4) (pa_cons (snd m w s X e G h3).1 pa_nil (star_cons hn)) rfl (by rw [star_cons hn]; rfl) h4 (star_cons hn) rfl)) fun D σ H ⟨H0, F0, F, ρ, R, a⟩ => ?_
  simp only [exS, appD] at a
  split at a
  rotate_left
  · exact a.elim
  rename_i xs e3
  obtain ⟨l, vs, f1, f2, f3, f4, f5⟩ := R.own i xs e3
  refine ⟨.ref l, f1, .inl ⟨rfl, vs, .inl (.inl f2)⟩, H0, F0, F, ρ, R, ?_⟩
  cases e1 : evE Φ ρ m with
  | stuck => rw [e1] at a; exact a
  | ex c => rw [e1] at a; exact fun H' F' g => a σ H' F' (R.gr.trans g)
  | ok b =>
    rw [e1, bind_ok] at a
    intro v H1 F1 g1 rp nw
    obtain ⟨F1', g1', dq⟩ := rp.freeze g1 nw
    have R1 := R.grow g1'
    unfold appK at a
    split at a
    rotate_left
    · exact a.elim
    rename_i hl
    have hl := line_ok hl
    obtain ⟨l', vs', f1', f2', f3', f4', f5'⟩ := R1.own i xs e3
    rw [f1] at f1'; cases f1'
    exact ⟨l, vs', v, rfl, rfl, f2', by rw [f5'.length]; exact hl, a _ _ F1' (R1.change e3 f1 (f5'.app (.cons dq .nil))) g1'.f⟩
theorem sS_ite {c : E} {a b : List S} (Sa : SndB T Φ ev a) (Sb : SndB T Φ ev b) : SndS T Φ ev (.ite c a b) := fun w s X st G hS h => by
  unfold ckS at h
  split at h
  rotate_left
  · cases h
  rename_i e x y pos
  simp only [Bool.and_eq_true] at h
  obtain ⟨⟨h1, h2⟩, h3⟩ := h
  refine ps_weak (ps_if (snd c w s X e G h1).2 (Sa w s X x G hS h2) (Sb w s X y G hS h3)) fun D σ H ⟨H0, F0, F, ρ, R, q⟩ => ⟨H0, F0, F, ρ, R, ?_⟩
  simp only [exS] at q
  cases e1 : bor ρ c (evE Φ ρ c) with
  | stuck => rw [e1] at q; exact q
  | ex c => rw [e1] at q; exact fun H' F' g => q σ H' F' (R.gr.trans g)
  | ok d =>
    rw [e1, bind_ok] at q
    unfold iteD at q
    split at q
    · intro H1 F1 g
      rw [if_pos rfl]
      exact ⟨H0, F0, F1, ρ, R.grow g, q.mono g.f⟩
    · intro H1 F1 g
      rw [if_neg Bool.false_ne_true]
      exact ⟨H0, F0, F1, ρ, R.grow g, q.mono g.f⟩
    · exact q.elim
theorem sS_ret {m : E} : SndS T Φ ev (.ret m) := fun w s X st G hS h => by
  unfold ckS at h
  split at h
  rotate_left
  · cases h
  rename_i e pos
  by_cases hv : ∃ i, m = E.var i
  · obtain ⟨i, rfl⟩ := hv
    cases e <;> simp [ckE] at h
    rename_i x px
    obtain ⟨v1, v2, v3, v4⟩ := vis_of G h
    refine ps_weak (ps_ret (pe_var (i := i) v1 v2 v3 v4)) fun D σ H ⟨H0, F0, F, ρ, R, a⟩ => ?_
    simp only [exS, retD, retV] at a
    split at a
    · rename_i b e
      cases b with
      | val d =>
        obtain ⟨v, e1, e2⟩ := R.val i d e
        exact ⟨v, e1, a v H F R.gr e2 trivial⟩
      | own ds =>
        obtain ⟨l, vs, e1, e2, e3, e4, e5⟩ := R.own i ds e
        exact ⟨.ref l, e1, a _ H F R.gr ⟨l, vs, rfl, e2, e3, e5⟩ ⟨l, rfl, e4⟩⟩
    · exact a.elim
  · refine ps_weak (ps_ret (snd m w s X e G h).1) fun D σ H ⟨H0, F0, F, ρ, R, a⟩ => ⟨H0, F0, F, ρ, R, ?_⟩
    have a : AfS X.K w H0 F0 F (do let b ← evE Φ ρ m; .ok (.rt b)) D := by
      cases m <;> first | (simp only [exS, retD] at a; exact a) | exact absurd ⟨_, rfl⟩ hv
    refine asg_E R a fun b v H' F' _ a' g rp nw => a' v H' F' (R.gr.trans g) rp (nw.back R.gr.h)
theorem sS_cont : SndS T Φ ev .cont := fun w s X st G hS h => by
  unfold ckS at h
  split at h
  rotate_left
  · cases h
  exact ps_weak ps_continue fun D σ H ⟨H0, F0, F, ρ, R, a⟩ => (show AfS X.K w H0 F0 F (.ok (.ct ρ)) D from by simpa only [exS] using a) σ H F R (.refl _)
theorem sS_pass : SndS T Φ ev .pass := fun w s X st G hS h => by
  unfold ckS at h
  split at h
  rotate_left
  · cases h
  exact ps_weak ps_pass fun D σ H ⟨H0, F0, F, ρ, R, a⟩ => (show AfS X.K w H0 F0 F (.ok (.nx ρ)) D from by simpa only [exS] using a) σ H F R (.refl _)
theorem sS_bad : SndS T Φ ev .bad := fun w s X st G hS h => ps_weak ps_never fun D σ H ⟨H0, F0, F, ρ, R, a⟩ => (show AfS X.K w H0 F0 F .stuck D from by simpa only [exS] using a)
theorem sS_frz {is : List Nat} {m : S} (Sm : SndS T Φ ev m) : SndS T Φ ev (.frz is m) := fun w s X st G hS h => by
  have h : ckS T s m st = true := by simpa only [ckS] using h
  refine ps_weak (Sm w s X st G hS h) fun D σ H ⟨H0, F0, F, ρ, R, a⟩ => ?_
  obtain ⟨F', R', sf⟩ := R.frz is
  exact ⟨H0, F0, F', _, R', AfS.mono (by simpa only [exS] using a) sf⟩
theorem sS_raise {c : Nat} : SndS T Φ ev (.raise c) := fun w s X st G hS h => by
  unfold ckS at h
  split at h
  rotate_left
  · cases h
  rename_i x p m j p2 pos pos2
  simp only [Bool.and_eq_true, decide_eq_true_eq] at h
  obtain ⟨C, e1, e2, e3, e4, e50, e51⟩ := G.exc c x h.1
  have e5 : Raises X (.ref C) := raises_own e50 e51
  refine ps_weak (ps_raise G.calm G.tk (pmk_own PySem.F.excBase_ValueError e3 e2 e4 e5 (gl_of G h.2).1 (gl_of G h.2).2)) fun D σ H ⟨H0, F0, F, ρ, R, a⟩ => ?_
  exact ⟨c, e1.symm, rfl, (show AfS X.K w H0 F0 F (.ex c) D from by simpa only [exS] using a) σ H F R.gr⟩
theorem StR.hide {K : PySem.W.Frag} {H0 F0 H F : Hp} {σ : L2.St} {ρ : En} (R : StR K H0 F0 σ H F ρ) (i : Nat) (x : Option V) : StR K H0 F0 (σ.set i x) H F (ρ.set i none) where
  gr := R.gr
  len := by rw [List.length_set, List.length_set, R.len]
  val := fun j d' e => by
    by_cases hj : i = j
    · subst hj
      have hl := (List.getElem?_eq_some_iff.mp e).1
      rw [List.length_set] at hl
      rw [List.getElem?_set_self hl] at e
      cases e
    · rw [List.getElem?_set_ne hj] at e ⊢
      exact R.val j d' e
  own := fun j ds e => by
    by_cases hj : i = j
    · subst hj
      have hl := (List.getElem?_eq_some_iff.mp e).1
      rw [List.length_set] at hl
      rw [List.getElem?_set_self hl] at e
      cases e
    · rw [List.getElem?_set_ne hj] at e ⊢
      exact R.own j ds e
  sep := fun j k ds ds' l ne e1 e2 e3 e4 => by
    have hj : i ≠ j := fun z => by
      subst z
      have hl := (List.getElem?_eq_some_iff.mp e1).1
      rw [List.length_set] at hl
      rw [List.getElem?_set_self hl] at e1; cases e1
    have hk : i ≠ k := fun z => by
      subst z
      have hl := (List.getElem?_eq_some_iff.mp e2).1
      rw [List.length_set] at hl
      rw [List.getElem?_set_self hl] at e2; cases e2
    rw [List.getElem?_set_ne hj] at e1 e3
    rw [List.getElem?_set_ne hk] at e2 e4
    exact R.sep j k ds ds' l ne e1 e2 e3 e4
theorem sS_tri {m : E} {d i : Nat} {sts : List (Nat × SuE)} : SndS T Φ ev (.tri m d i sts) := fun w s X st G hS h => by
  unfold ckS at h
  split at h
  rotate_left
  · cases h
  rename_i e p x px n suite p2 p3
  simp only [Bool.and_eq_true, decide_eq_true_eq, Bool.not_eq_true', List.contains_iff_mem] at h
  obtain ⟨⟨⟨⟨⟨⟨⟨⟨⟨hne, hk⟩, hi⟩, n1⟩, n2⟩, hm⟩, hn⟩, hg⟩, hh⟩, hs⟩ := h
  obtain ⟨Dx, cv, ed, hc, hx, ec⟩ := (G.hnd d x hh).ex
  have gx := gl_of G hg
  have nd : X.N.Nodup := by rw [G.N]; exact G.nd
  have kn : X.env.kindOf n = some .local := by show X.env.scope.names.lookup n = _; rw [G.sc]; exact hk
  cases suite with
  | nil => simp at hne
  | cons b0 suite =>
    have body : ∀ (W : WX) (pn : List (Addr × Obj)) (xe : Value → Shared → Prop), Takes (X.tr pn xe) W → PassesOwn (model X.prog X.w) X.A X.env xe → PSs (X.tr pn xe) [.Expr e p] (tDrop (tE X.K (fun c σ H => W (ev c) none σ H) Φ m)) := fun W pn xe tk po => by
      have G' : Good T Φ (fun c σ H => W (ev c) none σ H) ev s (X.tr pn xe) :=
        { N := G.N, nd := G.nd, calm := G.calm, units := G.units, sc := G.sc, fn := G.fn, calls := G.calls, blt := G.blt, con := G.con,
          tk := Takes.imp tk fun c d σ H ⟨k, e1, e2, z⟩ => by subst e1; subst e2; exact z
          po := po, exc := G.exc, kit := G.kit, hnd := G.hnd }
      exact pss_one (ps_expr (snd m _ s _ e G' hm).1 (sw_none hn))
    have su : ∀ (a : Addr) (oe : Obj) (cls : Value) (dd : Option Addr) (pn : List (Addr × Obj)), Zc cls dd oe → (∃ vs, oe.data = Data.fields vs) →
        PSs (X.suite a ((a, oe) :: pn)) (b0 :: suite) (fun D σ H => (cls = .ref Dx ∧ dd = none) ∧ ∃ H0 F0 F ρ ρ2, StR X.K H0 F0 σ H F ρ ∧ σ[i]? = some (some (.ref a)) ∧ runSu i ρ sts = .ok ρ2 ∧ ∀ σ' H' F', StR X.K H0 F0 (σ'.set i none) H' F' ρ2 → Same F F' → D.nx σ' H') := fun a oe cls dd pn hz hf =>
      ⟨fun pins sh σ H D I q => by
        obtain ⟨⟨e1, e2⟩, q⟩ := q
        subst e1; subst e2
        have II : InSu T ev s X oe Dx d i n := { N := G.N, nd := G.nd, ni := hi, nv := by unfold Vis; rw [G.sc]; exact .inl hk, n1 := n1, n2 := n2, sc := G.sc, fn := G.fn, ed := ed, ec := ec, hz := hz, hf := hf, blt := G.blt, kit := G.kit }
        exact (pss_su II hs).run pins sh σ H D I q⟩
    refine ps_weak (ps_try_as (i := i) (tb := fun W => tDrop (tE X.K (fun c σ H => W (ev c) none σ H) Φ m)) hS.1 hS.2 nd (by rw [G.N]; exact hi) kn ⟨gx.1, gx.2, hc⟩ G.tk body su) fun D σ H ⟨H0, F0, F, ρ, R, a⟩ => ?_
    refine ⟨H0, F0, F, ρ, R, ?_⟩
    simp only [exS] at a
    cases e1 : evE Φ ρ m with
    | stuck => rw [e1] at a; exact a
    | ok b =>
      rw [e1] at a
      exact fun v H' F' g _ _ => a σ H' F' (R.grow g) g.f
    | ex c =>
      rw [e1] at a
      unfold triD at a
      dsimp only at a
      split at a
      rotate_left
      · exact a.elim
      rename_i hcd
      obtain ⟨rfl, hlt⟩ := hcd
      cases e2 : runSu i (ρ.set i none) sts with
      | stuck => rw [e2] at a; exact a.elim
      | ex c' => rw [e2] at a; exact (runSu_noex e2).elim
      | ok ρ2 =>
        rw [e2] at a
        intro H' F' g
        refine ⟨true, by rw [ed]; exact hx, fun _ a' ha => ⟨⟨ed, rfl⟩, H0, F0, F', ρ.set i none, ρ2, (R.grow g).hide i _, List.getElem?_set_self (by rw [R.len]; exact hlt), e2, fun σ' H2 F2 R2 s2 => a _ H2 F2 R2 (g.f.trans s2)⟩, fun z => by cases z⟩
theorem sS_for {t : Tg} {k : ItK} {es : List E} {body : List S} (Sb : SndB T Φ ev body) : SndS T Φ ev (.for t k es body) := fun w s X st G hS h => by
  unfold ckS at h
  split at h
  rotate_left
  · cases h
  rename_i tg iter x pos
  simp only [Bool.and_eq_true] at h
  obtain ⟨⟨⟨h1, h2⟩, h3⟩, h4⟩ := h
  refine ps_weak (ps_for G.po G.calm (sndI (z := false) (sndAll es) G h1 fun e => ?_) (pgT t G h3) (Sb w s X x G hS h4) (nset_fold (ckIt_nset h1))) fun D σ H ⟨H0, F0, F, ρ, R, a⟩ => ⟨H0, F0, F, ρ, R, ?_⟩
  · subst e
    cases tg <;> simp at h2
    exact ⟨_, _, _, rfl⟩
  simp only [exS] at a
  change AfI false X.K w σ H F (do let ds ← evL Φ ρ es; itD k ds) _
  cases e1 : evL Φ ρ es with
  | stuck => rw [e1] at a; exact a
  | ex c => rw [e1] at a; exact fun H' F' g => a σ H' F' (R.gr.trans g)
  | ok ds =>
    rw [e1, bind_ok] at a
    rw [bind_ok]
    cases e2 : itD k ds with
    | stuck => rw [e2] at a; exact a
    | ex c => exact (noex_it e2).elim
    | ok xs =>
      rw [e2, bind_ok] at a
      intro J H1 F1 g1 hIt
      refine ⟨fun i mm σ2 H2 => mm = xs.length - i ∧ i ≤ xs.length ∧ ∃ F2 ρ2, StR X.K H0 F0 σ2 H2 F2 ρ2 ∧ Same F1 F2 ∧ AfS X.K w H0 F0 F1 (forD (fun d ρ1 => do let ρ2 ← bindT t d ρ1; exL Φ body ρ2) (xs.drop i) ρ2) D,
        ⟨xs.length, by simp, Nat.zero_le _, F1, ρ, R.grow g1, .refl _, a.mono g1.f⟩, ?_⟩
      rintro i mm σ2 H2 ⟨rfl, hi, F2, ρ2, R2, sf, a2⟩
      have hit := hIt i H2 F2 (sf.trans R2.s) sf R2.s
      by_cases hlt : i < xs.length
      · have ed : xs.drop i = xs[i] :: xs.drop (i + 1) := (List.getElem_cons_drop hlt).symm
        rw [ed] at a2
        obtain ⟨hgo, hy⟩ := hit.1 xs[i] (List.getElem?_eq_getElem hlt)
        refine .inr ⟨hgo, fun σ' H' => ∃ F2 ρ2, StR X.K H0 F0 σ' H' F2 ρ2 ∧ Same F1 F2 ∧ AfS X.K w H0 F0 F1 (forD (fun d ρ1 => do let ρ2 ← bindT t d ρ1; exL Φ body ρ2) (xs.drop (i + 1)) ρ2) D,
          fun σ' H' q => ⟨xs.length - (i + 1), by omega, rfl, hlt, q⟩, fun v H3 y => ?_⟩
        obtain ⟨F3, g3, dq⟩ := hy v H3 y
        simp only [forD] at a2
        cases e3 : bindT t xs[i] ρ2 with
        | stuck => rw [e3] at a2; exact a2.elim
        | ex c => exact (bindT_noex e3).elim
        | ok ρ3 =>
          rw [e3, bind_ok] at a2
          have Rg := R2.grow g3
          refine ⟨H0, F0, F3, ρ2, xs[i], ρ3, Rg, dq, e3, fun σ' R' _ => ⟨H0, F0, F3, ρ3, R', ?_⟩⟩
          have s13 : Same F1 F3 := sf.trans g3.f
          cases e4 : exL Φ body ρ3 with
          | stuck => rw [e4] at a2; exact a2
          | ex c => rw [e4] at a2; exact a2
          | ok o =>
            rw [e4] at a2
            cases o with
            | nx ρ4 => exact fun σ4 H4 F4 R4 s4 => ⟨F4, ρ4, R4, s13.trans s4, a2⟩
            | ct ρ4 => exact fun σ4 H4 F4 R4 s4 => ⟨F4, ρ4, R4, s13.trans s4, a2⟩
            | rt b => exact a2
      · have ei : i = xs.length := by omega
        subst ei
        rw [List.drop_length] at a2
        exact .inl ⟨hit.2 rfl, a2 σ2 H2 F2 R2 sf⟩
theorem whlD_fuel {c : En → M D} {f : En → M Out} {ρ : En} (h : whlD c f ρ ≠ .stuck) : ∃ n, whlN c f n ρ = whlD c f ρ := by
  unfold whlD at h ⊢
  split
  · rename_i hx; exact ⟨_, rfl⟩
  · rename_i hx
    rw [dif_neg hx] at h
    exact absurd rfl h
theorem sS_whl {c : E} {body : List S} (Sb : SndB T Φ ev body) : SndS T Φ ev (.whl c body) := fun w s X st G hS h => by
  unfold ckS at h
  split at h
  rotate_left
  · cases h
  rename_i e x pos
  simp only [Bool.and_eq_true] at h
  refine ps_weak (ps_while G.po (snd c w s X e G h.1).2 (Sb w s X x G hS h.2)) fun D σ H ⟨H0, F0, F, ρ, R, a⟩ => ?_
  simp only [exS] at a
  obtain ⟨n, hn⟩ : ∃ n, whlN (fun ρ1 => bor ρ1 c (evE Φ ρ1 c)) (fun ρ1 => exL Φ body ρ1) n ρ = whlD (fun ρ1 => bor ρ1 c (evE Φ ρ1 c)) (fun ρ1 => exL Φ body ρ1) ρ := whlD_fuel fun z => by rw [z] at a; exact a
  rw [← hn] at a
  refine ⟨fun m σ1 H1 => ∃ F1 ρ1, StR X.K H0 F0 σ1 H1 F1 ρ1 ∧ Same F F1 ∧ AfS X.K w H0 F0 F (whlN (fun ρ1 => bor ρ1 c (evE Φ ρ1 c)) (fun ρ1 => exL Φ body ρ1) m ρ1) D, ⟨n, F, ρ, R, .refl _, a⟩, ?_⟩
  rintro m σ1 H1 ⟨F1, ρ1, R1, sf, a1⟩
  cases m with
  | zero => exact a1.elim
  | succ m =>
    simp only [whlN] at a1
    refine ⟨H0, F0, F1, ρ1, R1, ?_⟩
    cases e1 : bor ρ1 c (evE Φ ρ1 c) with
    | stuck => rw [e1] at a1; exact a1
    | ex c => rw [e1] at a1; exact fun H' F' g => a1 σ1 H' F' (R1.gr.trans g)
    | ok d =>
      rw [e1] at a1
      cases d with
      | bool b =>
        intro H2 F2 g2
        cases b with
        | false =>
          rw [if_neg Bool.false_ne_true]
          exact a1 σ1 H2 F2 (R1.grow g2) (sf.trans g2.f)
        | true =>
          rw [if_pos rfl]
          refine ⟨fun σ' H' => ∃ F1 ρ1, StR X.K H0 F0 σ' H' F1 ρ1 ∧ Same F F1 ∧ AfS X.K w H0 F0 F (whlN (fun ρ1 => bor ρ1 c (evE Φ ρ1 c)) (fun ρ1 => exL Φ body ρ1) m ρ1) D, fun σ' H' q => ⟨m, by omega, q⟩, ?_⟩
          refine ⟨H0, F0, F2, ρ1, R1.grow g2, ?_⟩
          have s2 : Same F F2 := sf.trans g2.f
          cases e2 : exL Φ body ρ1 with
          | stuck => rw [e2] at a1; exact a1
          | ex c => rw [e2] at a1; exact a1
          | ok o =>
            rw [e2] at a1
            cases o with
            | nx ρ4 => exact fun σ4 H4 F4 R4 s4 => ⟨F4, ρ4, R4, s2.trans s4, a1⟩
            | ct ρ4 => exact fun σ4 H4 F4 R4 s4 => ⟨F4, ρ4, R4, s2.trans s4, a1⟩
            | rt b => exact a1
      | _ => exact a1.elim
theorem sB_nil : SndB T Φ ev [] := fun w s X st G hS h => by
  cases st with
  | cons => simp [ckB] at h
  | nil => exact pss_weak pss_nil fun D σ H ⟨H0, F0, F, ρ, R, a⟩ => (show AfS X.K w H0 F0 F (.ok (.nx ρ)) D from by simpa only [exL] using a) σ H F R (.refl _)
theorem sB_cons {m : S} {ms : List S} (Sm : SndS T Φ ev m) (Sr : SndB T Φ ev ms) : SndB T Φ ev (m :: ms) := fun w s X st G hS h => by
  cases st with
  | nil => simp [ckB] at h
  | cons y r =>
    simp only [ckB, Bool.and_eq_true] at h
    refine pss_weak (pss_cons (Sm w s X y G hS h.1) (Sr w s X r G hS h.2)) fun D σ H ⟨H0, F0, F, ρ, R, a⟩ => ⟨H0, F0, F, ρ, R, ?_⟩
    simp only [exL, seqD'] at a
    cases e : exS Φ m ρ with
    | stuck => rw [e] at a; exact a
    | ex c => rw [e] at a; exact a
    | ok o =>
      rw [e] at a
      cases o with
      | nx ρ1 => exact fun σ1 H1 F1 R1 s1 => ⟨H0, F0, F1, ρ1, R1, a.mono s1⟩
      | ct ρ1 => exact a
      | rt b => exact a
mutual
theorem sndS : ∀ m : S, SndS T Φ ev m
  | .asg t e => sS_asg
  | .set i e => sS_set
  | .put i k e => sS_put
  | .app i e => sS_app
  | .ite c a b => sS_ite (sndB a) (sndB b)
  | .for t k es body => sS_for (sndB body)
  | .whl c body => sS_whl (sndB body)
  | .ret e => sS_ret
  | .cont => sS_cont
  | .pass => sS_pass
  | .frz is s => sS_frz (sndS s)
  | .raise c => sS_raise
  | .tri m d i sts => sS_tri
  | .bad => sS_bad
theorem sndB : ∀ ms : List S, SndB T Φ ev ms
  | [] => sB_nil
  | m :: ms => sB_cons (sndS m) (sndB ms)
end
end
end Tg
namespace Tg
open PySem PySem.Spec PyProof.Rows L2
section
variable {P : Program} {w : World} {K : PySem.W.Frag} {mg : Str → Option Value} {base : Heap}
structure Can (P : Program) (w : World) (K : PySem.W.Frag) (mg : Str → Option Value) (base : Heap) (ev : Nat → Value) (lvl : Nat) (x : Str) (den : List D → M B) : Prop where
  ex : ∃ f fd ps, mg x = some (.ref f) ∧ FnOk P w K mg base (L2.CX P w) lvl f fd ps (spP K ps.length den ev) ∧ (∀ ds, ds.length ≠ ps.length → den ds = .stuck) ∧ PySem.W.keepIn K (.ref f) = true ∧ Binds K fd ps []
theorem Can.mono {ev : Nat → Value} {l l' : Nat} {x : Str} {den : List D → M B} (c : Can P w K mg base ev l x den) (h : l ≤ l') : Can P w K mg base ev l' x den :=
  let ⟨f, fd, ps, h1, h2, h3⟩ := c.ex; ⟨⟨f, fd, ps, h1, h2.mono h, h3⟩⟩
structure ExcAt (K : PySem.W.Frag) (mg : Str → Option Value) (ev : Nat → Value) (k : Nat) (x : Str) : Prop where
  ex : ∃ C, ev k = .ref C ∧ mg x = some (.ref C) ∧ PySem.W.excIn K C HandSPX.veTail "ValueError.__new__" = true ∧ PySem.W.keepIn K (.ref C) = true ∧ PySem.W.subIn K (.ref C) (.type "BaseException") = some true ∧ PySem.W.typeIn K (.ref C) = some (.type "type")
theorem runF_len {Φ : Fs} {n m : Nat} {body : List S} : ∀ ds : List D, ds.length ≠ n → runF Φ n m body ds = .stuck := fun ds h => by
  unfold runF
  rw [if_neg h]
theorem start_ok {H F : Hp} {N : List Str} {vs : List V} {ds : List D} (s : Same F H) (h : DqAll K F vs ds) (hl : vs.length ≤ N.length) : StR K H F (L2.start N vs) H F (entry ds.length N.length ds) := by
  unfold entry
  have hlen := h.length
  refine ⟨.refl s, ?_, fun i d e => ?_, fun i es e => ?_, fun i j es es' l ne e1 => ?_⟩
  · unfold L2.start
    rw [List.length_append, List.length_append, List.length_map, List.length_map, List.length_replicate, List.length_replicate, hlen]
  · unfold L2.start
    rw [List.getElem?_append] at e ⊢
    rw [List.length_map] at e ⊢
    split at e
    · rename_i hi
      rw [List.getElem?_map] at e
      cases q : ds[i]? with
      | none => rw [q] at e; cases e
      | some d' =>
        rw [q] at e
        simp only [Option.map_some, Option.some.injEq, B.val.injEq] at e
        subst e
        obtain ⟨v, e1, e2⟩ := h.get q
        rw [if_pos (by omega), List.getElem?_map, e1]
        exact ⟨v, rfl, e2⟩
    · rw [List.getElem?_replicate] at e
      split at e <;> cases e
  · rw [List.getElem?_append] at e
    split at e
    · rw [List.getElem?_map] at e
      cases q : ds[i]? with
      | none => rw [q] at e; cases e
      | some d' => rw [q] at e; cases e
    · rw [List.getElem?_replicate] at e
      split at e <;> cases e
  · rw [List.getElem?_append] at e1
    split at e1
    · rw [List.getElem?_map] at e1
      cases q : ds[i]? with
      | none => rw [q] at e1; cases e1
      | some d' => rw [q] at e1; cases e1
    · rw [List.getElem?_replicate] at e1
      split at e1 <;> cases e1
theorem fnOk {T : Tb} {Φ : Fs} {ev : Nat → Value} {lvl : Nat} {x qual : Str} {st : Stmt} {f : Addr} {fd : FuncData} {ps : List Str} {body : List S}
    (F : Fun K x qual st f fd) (S : FnScope T.N ps (defScope st)) (hck : ckB T ⟨defScope st, fun _ => true⟩ body (defBody st) = true) (hps : ps.length ≤ T.N.length)
    (hc : ∀ (k : Nat) (y : Str), T.cal[k]? = some y → Can P w K mg base ev lvl y (Φ k))
    (hb : ∀ y ∈ bltNames, mg y = none)
    (hcon : ∀ (k : Nat) (y : Str) (d : D), T.con[k]? = some (y, d) → ∃ v u, mg y = some u ∧ RelV v u ∧ ∀ F, Dq K F v d)
    (hexc : ∀ (k : Nat) (y : Str), T.exc[k]? = some y → ExcAt K mg ev k y) (hkit : ∀ (d : Nat) (x : Str) (b : Bool), (d, x, b) ∈ T.kit → KitAt K mg ev d x b) (hhnd : ∀ (d : Nat) (x : Str), (d, x) ∈ T.hnd → HndAt K mg ev d x) :
    FnOk P w K mg base (L2.CX P w) (lvl + 1) f fd ps (spP K ps.length (runF Φ ps.length T.N.length body) ev) := by
  refine F.okX S (fun vs H Q E h => ?_) (fun cdv A outer s H vs Q E hr h => ?_)
  · obtain ⟨_, _, h1, _⟩ := h; exact h1
  · obtain ⟨Fz, ds, hl, sm, dq, h⟩ := h
    have G : Good T Φ (fun c _ H => E (ev c) none H) ev ⟨defScope st, fun _ => true⟩ (cxOf (L2.CX P w) P w K mg base T.N qual (defScope st) f cdv A outer s H E) :=
      { N := rfl, nd := S.nd, calm := rfl, units := by have := hr.un; show (A.deeper _).units + 65 < cLine; omega, sc := rfl, fn := rfl,
        calls := fun k y e => by
          obtain ⟨g, gd, qs, h1, h2, h3, h4, h5⟩ := (hc k y e).ex
          exact ⟨g, gd, qs, lvl, h1, hr, h2, h3, h4, h5⟩
        blt := hb, con := hcon,
        tk := Takes.imp (takes_of rfl rfl rfl rfl) fun c d σ H ⟨k, e1, e2, z⟩ => by subst e1; subst e2; exact z
        po := passes_of rfl
        exc := fun k y e => by
          obtain ⟨C, e1, e2, e3, e4, e5, e6⟩ := (hexc k y e).ex
          exact ⟨C, e1, e2, e3, e4, e5, e6⟩
        kit := hkit, hnd := hhnd }
    refine ⟨_, sndB body _ _ _ _ G ⟨rfl, rfl⟩ hck, H, Fz, Fz, _, start_ok sm dq (by rw [hl]; exact hps), ?_⟩
    unfold runF at h
    have hdl : ds.length = ps.length := by rw [← dq.length]; exact hl
    rw [if_pos hdl] at h
    rw [hdl]
    cases e : exL Φ body (entry ps.length T.N.length ds) with
    | stuck => rw [e] at h; exact h
    | ex c => rw [e] at h; exact fun σ H' F' g => h H' F' g
    | ok o =>
      rw [e] at h
      cases o with
      | nx ρ => exact fun σ H' F' R _ => h .non H' F' R.gr .non trivial
      | ct ρ => exact h.elim
      | rt b => exact fun v H' F' g rp nw => h v H' F' g rp nw
theorem can_of {T : Tb} {Φ : Fs} {ev : Nat → Value} {lvl : Nat} {x qual : Str} {st : Stmt} {f : Addr} {fd : FuncData} {ps : List Str} {body : List S}
    (F : Fun K x qual st f fd) (hx : mg x = some (.ref f)) (hbd : Binds K fd ps []) (S : FnScope T.N ps (defScope st)) (hck : ckB T ⟨defScope st, fun _ => true⟩ body (defBody st) = true) (hps : ps.length ≤ T.N.length)
    (hc : ∀ (k : Nat) (y : Str), T.cal[k]? = some y → Can P w K mg base ev lvl y (Φ k))
    (hb : ∀ y ∈ bltNames, mg y = none)
    (hcon : ∀ (k : Nat) (y : Str) (d : D), T.con[k]? = some (y, d) → ∃ v u, mg y = some u ∧ RelV v u ∧ ∀ F, Dq K F v d)
    (hexc : ∀ (k : Nat) (y : Str), T.exc[k]? = some y → ExcAt K mg ev k y) (hkit : ∀ (d : Nat) (x : Str) (b : Bool), (d, x, b) ∈ T.kit → KitAt K mg ev d x b) (hhnd : ∀ (d : Nat) (x : Str), (d, x) ∈ T.hnd → HndAt K mg ev d x) : Can P w K mg base ev (lvl + 1) x (runF Φ ps.length T.N.length body) :=
  ⟨⟨f, fd, ps, hx, fnOk F S hck hps hc hb hcon hexc hkit hhnd, runF_len, F.kp, hbd⟩⟩
theorem calls_nil {ev : Nat → Value} {lvl : Nat} : ∀ (k : Nat) (y : Str), ([] : List Str)[k]? = some y → Can P w K mg base ev lvl y (phi [] k) := fun k y e => by simp at e
theorem calls_cons {ev : Nat → Value} {l lvl : Nat} {x : Str} {d : List D → M B} {cal : List Str} {r : List (List D → M B)} (c : Can P w K mg base ev l x d) (hl : l ≤ lvl)
    (h : ∀ (k : Nat) (y : Str), cal[k]? = some y → Can P w K mg base ev lvl y (phi r k)) : ∀ (k : Nat) (y : Str), (x :: cal)[k]? = some y → Can P w K mg base ev lvl y (phi (d :: r) k)
  | 0, y, e => by
    simp only [List.getElem?_cons_zero, Option.some.injEq] at e
    subst e
    exact c.mono hl
  | k + 1, y, e => h k y (by simpa using e)
theorem con_nil : ∀ (k : Nat) (y : Str) (d : D), ([] : List (Str × D))[k]? = some (y, d) → ∃ v u, mg y = some u ∧ RelV v u ∧ ∀ F, Dq K F v d := fun k y d e => by simp at e
theorem con_cons {x : Str} {c : D} {r : List (Str × D)} (h1 : ∃ v u, mg x = some u ∧ RelV v u ∧ ∀ F, Dq K F v c) (h : ∀ (k : Nat) (y : Str) (d : D), r[k]? = some (y, d) → ∃ v u, mg y = some u ∧ RelV v u ∧ ∀ F, Dq K F v d) :
    ∀ (k : Nat) (y : Str) (d : D), ((x, c) :: r)[k]? = some (y, d) → ∃ v u, mg y = some u ∧ RelV v u ∧ ∀ F, Dq K F v d
  | 0, y, d, e => by
    simp only [List.getElem?_cons_zero, Option.some.injEq, Prod.mk.injEq] at e
    obtain ⟨rfl, rfl⟩ := e
    exact h1
  | k + 1, y, d, e => h k y d (by simpa using e)
structure At (K : PySem.W.Frag) (x : Str) (st : Stmt) (f : Addr) : Prop where
  ex : ∃ (oc kV dc pm cd ct : Value) (od an : Option Addr) (sl : Array (Option Value)), PySem.W.nsIn K mainGlobals x = some (some (.ref f)) ∧
    K.lookup f = some ⟨oc, od, .func (PySem.W.fnOf x x (defArgs st) (defBody st) (defScope st) .none kV dc pm an cd ct), sl⟩ ∧ PySem.W.codeIn K cd x = true ∧ PySem.W.keepIn K (.ref f) = true
theorem at_mk {x : Str} {st : Stmt} {f : Addr} {oc kV dc pm cd ct : Value} {od an : Option Addr} {sl : Array (Option Value)} (a : PySem.W.nsIn K mainGlobals x = some (some (.ref f)))
    (l : K.lookup f = some ⟨oc, od, .func (PySem.W.fnOf x x (defArgs st) (defBody st) (defScope st) .none kV dc pm an cd ct), sl⟩) (c : PySem.W.codeIn K cd x = true) (k : PySem.W.keepIn K (.ref f) = true) : At K x st f :=
  ⟨⟨oc, kV, dc, pm, cd, ct, od, an, sl, a, l, c, k⟩⟩
theorem At.fn {x : Str} {st : Stmt} {f : Addr} {h : Heap} (A : At K x st f) (X : K.In h) (G : h.Ns mainGlobals mg) : mg x = some (.ref f) ∧ ∃ (kV dc pm cd ct : Value) (an : Option Addr), Fun K x x st f (PySem.W.fnOf x x (defArgs st) (defBody st) (defScope st) .none kV dc pm an cd ct) := by
  obtain ⟨oc, kV, dc, pm, cd, ct, od, an, sl, a, l, c, k⟩ := A.ex
  exact ⟨PySem.W.mg_of X G a, kV, dc, pm, cd, ct, an, fun_mk l c k⟩
structure Free (K : PySem.W.Frag) : Prop where
  all : ∀ y ∈ bltNames, PySem.W.nsIn K mainGlobals y = some none
theorem free_mk (z0 : PySem.W.nsIn K mainGlobals "abs" = some none) (z1 : PySem.W.nsIn K mainGlobals "len" = some none) (z2 : PySem.W.nsIn K mainGlobals "int" = some none) (z3 : PySem.W.nsIn K mainGlobals "list" = some none) (z4 : PySem.W.nsIn K mainGlobals "tuple" = some none) (z5 : PySem.W.nsIn K mainGlobals "sum" = some none) (z6 : PySem.W.nsIn K mainGlobals "all" = some none) (z7 : PySem.W.nsIn K mainGlobals "min" = some none) (z8 : PySem.W.nsIn K mainGlobals "max" = some none) (z9 : PySem.W.nsIn K mainGlobals "sorted" = some none) (z10 : PySem.W.nsIn K mainGlobals "range" = some none) (z11 : PySem.W.nsIn K mainGlobals "zip" = some none) (z12 : PySem.W.nsIn K mainGlobals "reversed" = some none) (z13 : PySem.W.nsIn K mainGlobals "isinstance" = some none) (z14 : PySem.W.nsIn K mainGlobals "bool" = some none) (z15 : PySem.W.nsIn K mainGlobals "str" = some none) : Free K := ⟨fun y hy => by
  simp only [bltNames, List.mem_cons, List.not_mem_nil, or_false] at hy
  rcases hy with rfl | rfl | rfl | rfl | rfl | rfl | rfl | rfl | rfl | rfl | rfl | rfl | rfl | rfl | rfl | rfl <;> assumption⟩
theorem blt_all {h : Heap} (X : K.In h) (G : h.Ns mainGlobals mg) (z : Free K) : ∀ y ∈ bltNames, mg y = none := fun y hy => PySem.W.mg_none_of X G (z.all y hy)
theorem law_sp {den : List D → M B} {ev : Nat → Value} {H : Hp} {a : Addr} {ns : List Int} (h : SqL K H a (ns.map V.int)) (e : den [.list (ns.map PyData.int)] = .ok (.val (.bool true))) :
    spP K 1 den ev [.ref a] H (fun v _ => v = .bl true) fun _ _ _ => False := by
  refine ⟨H, [.list (ns.map PyData.int)], rfl, .refl _, .cons (.lst h (dq_ints ns)) .nil, ?_⟩
  rw [e]
  intro v H' F' g rp nw
  cases (show Dq K F' v (.bool true) from rp)
  rfl
theorem no_exc (w : World) (P : Program) (H : Hp) (s : Shared) (e : Value) (s' : Shared) (h : L2.CX P w [] H s (fun _ _ _ => False) e s') : False := by
  obtain ⟨_, _, _, _, _, _, _, _, _, _, _, _, z⟩ := h
  exact z
end
end Tg
namespace Tg
open PySem
theorem whlN_mono {c : En → M D} {f : En → M Out} : ∀ {n m : Nat} {ρ : En}, n ≤ m → whlN c f n ρ ≠ .stuck → whlN c f m ρ = whlN c f n ρ
  | 0, _, _, _, h => absurd rfl h
  | n + 1, 0, _, hl, _ => by omega
  | n + 1, m + 1, ρ, hl, h => by
    simp only [whlN] at h ⊢
    cases e : c ρ with
    | stuck => rfl
    | ex k => rfl
    | ok d =>
      rw [e] at h
      cases d with
      | bool b =>
        cases b with
        | false => rfl
        | true =>
          dsimp only at h ⊢
          cases e2 : f ρ with
          | stuck => rfl
          | ex k => rfl
          | ok o =>
            rw [e2] at h
            cases o with
            | nx ρ1 => exact whlN_mono (Nat.le_of_succ_le_succ hl) h
            | ct ρ1 => exact whlN_mono (Nat.le_of_succ_le_succ hl) h
            | rt b => rfl
      | _ => rfl
theorem whlD_of {c : En → M D} {f : En → M Out} {ρ : En} {n : Nat} (h : whlN c f n ρ ≠ .stuck) : whlD c f ρ = whlN c f n ρ := by
  have hx : ∃ n, whlN c f n ρ ≠ .stuck := ⟨n, h⟩
  have h2 := Classical.choose_spec hx
  have e : whlD c f ρ = whlN c f (Classical.choose hx) ρ := by
    unfold whlD
    rw [dif_pos hx]
  rw [e]
  by_cases hl : n ≤ Classical.choose hx
  · exact whlN_mono hl h
  · exact (whlN_mono (by omega) h2).symm
theorem whlD_false {c : En → M D} {f : En → M Out} {ρ : En} (h : c ρ = .ok (.bool false)) : whlD c f ρ = .ok (.nx ρ) := by
  have e : whlN c f 1 ρ = .ok (.nx ρ) := by simp only [whlN, h]
  rw [whlD_of (n := 1) (by rw [e]; exact fun z => nomatch z), e]
theorem whlD_true {c : En → M D} {f : En → M Out} {ρ ρ1 : En} {r : M Out} (h : c ρ = .ok (.bool true)) (h1 : f ρ = .ok (.nx ρ1)) (h2 : whlD c f ρ1 = r) (hr : r ≠ .stuck) : whlD c f ρ = r := by
  obtain ⟨n, hn⟩ := whlD_fuel (c := c) (f := f) (ρ := ρ1) (by rw [h2]; exact hr)
  have e : whlN c f (n + 1) ρ = r := by simp only [whlN, h, h1]; rw [hn, h2]
  rw [whlD_of (n := n + 1) (by rw [e]; exact hr), e]
theorem whl_by {c : En → M D} {f : En → M Out} (Pv : En → Prop) (μ : En → Nat) (Qv : En → Prop) (h : ∀ ρ, Pv ρ → (c ρ = .ok (.bool false) ∧ Qv ρ) ∨ (c ρ = .ok (.bool true) ∧ ∃ ρ1, f ρ = .ok (.nx ρ1) ∧ Pv ρ1 ∧ μ ρ1 < μ ρ)) :
    ∀ ρ, Pv ρ → ∃ ρ1, whlD c f ρ = .ok (.nx ρ1) ∧ Qv ρ1 := by
  have key : ∀ n ρ, μ ρ ≤ n → Pv ρ → ∃ ρ1, whlD c f ρ = .ok (.nx ρ1) ∧ Qv ρ1 := by
    intro n
    induction n with
    | zero =>
      intro ρ hn hp
      rcases h ρ hp with ⟨h1, h2⟩ | ⟨_, ρ1, _, _, h4⟩
      · exact ⟨ρ, whlD_false h1, h2⟩
      · omega
    | succ n ih =>
      intro ρ hn hp
      rcases h ρ hp with ⟨h1, h2⟩ | ⟨h1, ρ1, h2, h3, h4⟩
      · exact ⟨ρ, whlD_false h1, h2⟩
      · obtain ⟨ρ2, q1, q2⟩ := ih ρ1 (by omega) h3
        exact ⟨ρ2, whlD_true h1 h2 q1 (fun z => nomatch z), q2⟩
  exact fun ρ hp => key (μ ρ) ρ (Nat.le_refl _) hp
theorem for_by {f : D → En → M Out} {xs : List D} (Pv : Nat → En → Prop) {ρ : En} (h0 : Pv 0 ρ) (hs : ∀ (i : Nat) (d : D) (ρ : En), xs[i]? = some d → Pv i ρ → ∃ ρ1, (f d ρ = .ok (.nx ρ1) ∨ f d ρ = .ok (.ct ρ1)) ∧ Pv (i + 1) ρ1) :
    ∃ ρ1, forD f xs ρ = .ok (.nx ρ1) ∧ Pv xs.length ρ1 := by
  have key : ∀ (ys : List D) (i : Nat) (ρ : En), xs.drop i = ys → i ≤ xs.length → Pv i ρ → ∃ ρ1, forD f ys ρ = .ok (.nx ρ1) ∧ Pv xs.length ρ1 := by
    intro ys
    induction ys with
    | nil =>
      intro i ρ e hi hp
      have : i = xs.length := by
        have := congrArg List.length e
        rw [List.length_drop, List.length_nil] at this
        omega
      subst this
      exact ⟨ρ, rfl, hp⟩
    | cons d ys ih =>
      intro i ρ e hi hp
      have hlt : i < xs.length := by
        have := congrArg List.length e
        rw [List.length_drop, List.length_cons] at this
        omega
      have e2 : xs[i] :: xs.drop (i + 1) = d :: ys := by rw [List.getElem_cons_drop hlt]; exact e
      obtain ⟨ed, ey⟩ := List.cons.inj e2
      obtain ⟨ρ1, h1, h2⟩ := hs i d ρ (by rw [List.getElem?_eq_getElem hlt, ed]) hp
      obtain ⟨ρ2, q1, q2⟩ := ih (i + 1) ρ1 ey hlt h2
      refine ⟨ρ2, ?_, q2⟩
      simp only [forD]
      rcases h1 with h1 | h1 <;> rw [h1] <;> exact q1
  exact key xs 0 ρ rfl (Nat.zero_le _) h0
section
variable {ρ : En} {r : M B} {d : D} {ds : List D} {b' : B} {i j : Int} {xs ys : List D}
theorem lookE_val : lookE (some (some (.val d))) = .ok (.val d) := rfl
theorem lookB_val : lookB (some (some (.val d))) = .ok d := rfl
theorem lookB_own : lookB (some (some (.own ds))) = .ok (.list ds) := rfl
theorem bor_var {n : Nat} : bor ρ (.var n) r = lookB ρ[n]? := rfl
theorem bor_con : bor ρ (.con d) r = valM r := rfl
theorem bor_glob {k : Nat} : bor ρ (.glob k d) r = valM r := rfl
theorem bor_tup {es : List E} : bor ρ (.tup es) r = valM r := rfl
theorem bor_lst {es : List E} : bor ρ (.lst es) r = valM r := rfl
theorem bor_rep {es : List E} {b : E} : bor ρ (.rep es b) r = valM r := rfl
theorem bor_bop {o : BOp} {a b : E} : bor ρ (.bop o a b) r = valM r := rfl
theorem bor_neg {a : E} : bor ρ (.neg a) r = valM r := rfl
theorem bor_not {a : E} : bor ρ (.not a) r = valM r := rfl
theorem bor_and {a b : E} : bor ρ (.and a b) r = valM r := rfl
theorem bor_or {a b : E} : bor ρ (.or a b) r = valM r := rfl
theorem bor_cmp {o : COp} {a b : E} : bor ρ (.cmp o a b) r = valM r := rfl
theorem bor_ix {a b : E} : bor ρ (.ix a b) r = valM r := rfl
theorem bor_sl {a : E} {lo hi : List E} : bor ρ (.sl a lo hi) r = valM r := rfl
theorem bor_sl3 {a : E} {lo hi st : List E} : bor ρ (.sl3 a lo hi st) r = valM r := rfl
theorem bor_inr {neg : Bool} {a : E} {bs : List E} : bor ρ (.inr neg a bs) r = valM r := rfl
theorem bor_call0 {k : Nat} : bor ρ (.call0 k) r = valM r := rfl
theorem bor_bi {f : Bi} {es : List E} : bor ρ (.bi f es) r = valM r := rfl
theorem bor_isi {a : E} {t : Ty} : bor ρ (.isi a t) r = valM r := rfl
theorem bor_call {k : Nat} {es : List E} : bor ρ (.call k es) r = valM r := rfl
theorem bor_lc {e : E} {t : Tg} {k : ItK} {es c : List E} {own : List Nat} : bor ρ (.lc e t k es c own) r = valM r := rfl
theorem valM_ok : valM (.ok b') = .ok b'.d := rfl
theorem valM_stuck : valM .stuck = .stuck := rfl
theorem valM_ex {c : Nat} : valM (.ex c) = .ex c := rfl
theorem d_val : (B.val d).d = d := rfl
theorem d_own : (B.own ds).d = .list ds := rfl
theorem negD_i : negD (.int i) = .ok (.val (.int (-i))) := rfl
theorem notD_b {b : Bool} : notD (.bool b) = .ok (.val (.bool (!b))) := rfl
theorem andD_t : andD (.bool true) r = r := rfl
theorem andD_f : andD (.bool false) r = .ok (.val (.bool false)) := rfl
theorem orD_f : orD (.bool false) r = r := rfl
theorem orD_t : orD (.bool true) r = .ok (.val (.bool true)) := rfl
theorem andD_b {b c : Bool} : andD (.bool b) (.ok (.val (.bool c))) = .ok (.val (.bool (b && c))) := by cases b <;> rfl
theorem orD_b {b c : Bool} : orD (.bool b) (.ok (.val (.bool c))) = .ok (.val (.bool (b || c))) := by cases b <;> rfl
theorem add_ii : bopD .add (.int i) (.int j) = .ok (.val (.int (i + j))) := rfl
theorem sub_ii : bopD .sub (.int i) (.int j) = .ok (.val (.int (i - j))) := rfl
theorem mul_ii : bopD .mul (.int i) (.int j) = if mulOk i j then .ok (.val (.int (i * j))) else .stuck := rfl
theorem fdiv_ii : bopD .fdiv (.int i) (.int j) = if divOk i j then .ok (.val (.int (i.fdiv j))) else .stuck := rfl
theorem mod_ii : bopD .mod (.int i) (.int j) = if j != 0 then .ok (.val (.int (i.fmod j))) else .stuck := rfl
theorem pow_ii : bopD .pow (.int i) (.int j) = if decide (0 ≤ j) && decide (j ≤ 1000000) && decide (i.natAbs < 2 ^ 64) then .ok (.val (.int (i ^ j.toNat))) else .stuck := rfl
theorem add_ll : bopD .add (.list xs) (.list ys) = if lineOk (xs.length + ys.length) then .ok (.own (xs ++ ys)) else .stuck := rfl
theorem add_tt : bopD .add (.tuple xs) (.tuple ys) = if lineOk (xs.length + ys.length) then .ok (.val (.tuple (xs ++ ys))) else .stuck := rfl
theorem lt_ii : cmpD .lt (.int i) (.int j) = .ok (.val (.bool (decide (i < j)))) := rfl
theorem le_ii : cmpD .le (.int i) (.int j) = .ok (.val (.bool (decide (i ≤ j)))) := rfl
theorem gt_ii : cmpD .gt (.int i) (.int j) = .ok (.val (.bool (decide (j < i)))) := rfl
theorem ge_ii : cmpD .ge (.int i) (.int j) = .ok (.val (.bool (decide (j ≤ i)))) := rfl
theorem eq_dd {x y : D} : cmpD .eq x y = if eqOk x y then .ok (.val (.bool (PyData.eqv x y))) else .stuck := rfl
theorem ne_dd {x y : D} : cmpD .ne x y = if eqOk x y then .ok (.val (.bool (!PyData.eqv x y))) else .stuck := rfl
theorem isN_d {x : D} : cmpD .isN x .none = .ok (.val (.bool (nonD x))) := rfl
theorem notN_d {x : D} : cmpD .notN x .none = .ok (.val (.bool (!nonD x))) := rfl
theorem isB_bb {b c : Bool} : cmpD .isB (.bool b) (.bool c) = .ok (.val (.bool (decide (b = c)))) := rfl
theorem notB_bb {b c : Bool} : cmpD .notB (.bool b) (.bool c) = .ok (.val (.bool (!decide (b = c)))) := rfl
def ixO (o : Option D) : M B := match o with | some d => .ok (.val d) | none => .stuck
theorem ix_l : ixD (.list xs) (.int i) = ixO (L2.atI xs i) := rfl
theorem ix_t : ixD (.tuple xs) (.int i) = ixO (L2.atI xs i) := rfl
theorem ixO_some : ixO (some d) = .ok (.val d) := rfl
theorem at_0 : L2.atI (d :: xs) 0 = some d := L2.atI_nat (j := 0) rfl
theorem at_1 {d1 : D} : L2.atI (d :: d1 :: xs) 1 = some d1 := L2.atI_nat (j := 1) rfl
theorem at_2 {d1 d2 : D} : L2.atI (d :: d1 :: d2 :: xs) 2 = some d2 := L2.atI_nat (j := 2) rfl
theorem at_3 {d1 d2 d3 : D} : L2.atI (d :: d1 :: d2 :: d3 :: xs) 3 = some d3 := L2.atI_nat (j := 3) rfl
theorem iteD_t {a b : M Out} : iteD (.bool true) a b = a := rfl
theorem iteD_f {a b : M Out} : iteD (.bool false) a b = b := rfl
theorem iteD_b {c : Bool} {a b : M Out} : iteD (.bool c) a b = if c then a else b := by cases c <;> rfl
theorem ret_var {n : Nat} : retD ρ (.var n) r = retV ρ[n]? := rfl
theorem retV_b : retV (some (some b')) = .ok (.rt b') := rfl
theorem end_rt : endD (.ok (.rt b')) = .ok b' := rfl
theorem end_nx : endD (.ok (.nx ρ)) = .ok (.val .none) := rfl
theorem end_ex {c : Nat} : endD (.ex c) = .ex c := rfl
theorem ret_con : retD ρ (.con d) r = (do let b ← r; .ok (.rt b)) := rfl
theorem ret_glob {k : Nat} : retD ρ (.glob k d) r = (do let b ← r; .ok (.rt b)) := rfl
theorem ret_tup {es : List E} : retD ρ (.tup es) r = (do let b ← r; .ok (.rt b)) := rfl
theorem ret_lst {es : List E} : retD ρ (.lst es) r = (do let b ← r; .ok (.rt b)) := rfl
theorem ret_rep {es : List E} {b : E} : retD ρ (.rep es b) r = (do let b ← r; .ok (.rt b)) := rfl
theorem ret_bop {o : BOp} {a b : E} : retD ρ (.bop o a b) r = (do let b ← r; .ok (.rt b)) := rfl
theorem ret_neg {a : E} : retD ρ (.neg a) r = (do let b ← r; .ok (.rt b)) := rfl
theorem ret_not {a : E} : retD ρ (.not a) r = (do let b ← r; .ok (.rt b)) := rfl
theorem ret_and {a b : E} : retD ρ (.and a b) r = (do let b ← r; .ok (.rt b)) := rfl
theorem ret_or {a b : E} : retD ρ (.or a b) r = (do let b ← r; .ok (.rt b)) := rfl
theorem ret_cmp {o : COp} {a b : E} : retD ρ (.cmp o a b) r = (do let b ← r; .ok (.rt b)) := rfl
theorem ret_ix {a b : E} : retD ρ (.ix a b) r = (do let b ← r; .ok (.rt b)) := rfl
theorem ret_sl {a : E} {lo hi : List E} : retD ρ (.sl a lo hi) r = (do let b ← r; .ok (.rt b)) := rfl
theorem ret_sl3 {a : E} {lo hi st : List E} : retD ρ (.sl3 a lo hi st) r = (do let b ← r; .ok (.rt b)) := rfl
theorem ret_inr {neg : Bool} {a : E} {bs : List E} : retD ρ (.inr neg a bs) r = (do let b ← r; .ok (.rt b)) := rfl
theorem ret_call0 {k : Nat} : retD ρ (.call0 k) r = (do let b ← r; .ok (.rt b)) := rfl
theorem safe_ok : safeD (.ok b') = .ok b' := rfl
theorem inr_t {n : Int} : inrD false (.int i) [.int n] = .ok (.val (.bool (decide (0 ≤ i ∧ i < n)))) := rfl
theorem inr_f {n : Int} : inrD true (.int i) [.int n] = .ok (.val (.bool (!decide (0 ≤ i ∧ i < n)))) := rfl
theorem mul_ti : bopD .mul (.tuple xs) (.int i) = mulT xs i := rfl
theorem ret_bi {f : Bi} {es : List E} : retD ρ (.bi f es) r = (do let b ← r; .ok (.rt b)) := rfl
theorem ret_isi {a : E} {t : Ty} : retD ρ (.isi a t) r = (do let b ← r; .ok (.rt b)) := rfl
theorem ret_call {k : Nat} {es : List E} : retD ρ (.call k es) r = (do let b ← r; .ok (.rt b)) := rfl
theorem ret_lc {e : E} {t : Tg} {k : ItK} {es c : List E} {own : List Nat} : retD ρ (.lc e t k es c own) r = (do let b ← r; .ok (.rt b)) := rfl
end
theorem run_of {Φ : Fs} {n m : Nat} {body : List S} {ds : List D} {ρ : En} {r : M B} (hl : ds.length = n) (he : entry n m ds = ρ) (h : endD (exL Φ body ρ) = r) : runF Φ n m body ds = r := by
  unfold runF
  rw [if_pos hl, he, h]
theorem isi_ii {i : Int} : isiD .int (.int i) = .ok (.val (.bool true)) := rfl
theorem isi_ib {b : Bool} : isiD .int (.bool b) = .ok (.val (.bool true)) := rfl
theorem isi_it {xs : List D} : isiD .int (.tuple xs) = .ok (.val (.bool false)) := rfl
theorem isi_il {xs : List D} : isiD .int (.list xs) = .ok (.val (.bool false)) := rfl
theorem isi_in : isiD .int .none = .ok (.val (.bool false)) := rfl
theorem isi_bi {i : Int} : isiD .bool (.int i) = .ok (.val (.bool false)) := rfl
theorem isi_bb {b : Bool} : isiD .bool (.bool b) = .ok (.val (.bool true)) := rfl
theorem isi_tt {xs : List D} : isiD .tuple (.tuple xs) = .ok (.val (.bool true)) := rfl
theorem isi_tl {xs : List D} : isiD .tuple (.list xs) = .ok (.val (.bool false)) := rfl
theorem isi_ti {i : Int} : isiD .tuple (.int i) = .ok (.val (.bool false)) := rfl
theorem isi_tn : isiD .tuple .none = .ok (.val (.bool false)) := rfl
theorem isi_ll {xs : List D} : isiD .list (.list xs) = .ok (.val (.bool true)) := rfl
theorem isi_lt {xs : List D} : isiD .list (.tuple xs) = .ok (.val (.bool false)) := rfl
theorem bi_abs {i : Int} : biD .abs [.int i] = .ok (.val (.int (if i < 0 then -i else i))) := rfl
theorem bi_len_l {xs : List D} : biD .len [.list xs] = .ok (.val (.int xs.length)) := rfl
theorem bi_len_t {xs : List D} : biD .len [.tuple xs] = .ok (.val (.int xs.length)) := rfl
theorem bi_int_i {i : Int} : biD .int [.int i] = .ok (.val (.int i)) := rfl
theorem bi_int_b {b : Bool} : biD .int [.bool b] = .ok (.val (.int (if b then 1 else 0))) := rfl
theorem bi_list_l {xs : List D} : biD .list [.list xs] = .ok (.own xs) := rfl
theorem bi_list_t {xs : List D} : biD .list [.tuple xs] = .ok (.own xs) := rfl
theorem bi_tuple_l {xs : List D} : biD .tuple [.list xs] = .ok (.val (.tuple xs)) := rfl
theorem bi_tuple_t {xs : List D} : biD .tuple [.tuple xs] = .ok (.val (.tuple xs)) := rfl
def sumO (o : Option (List Int)) : M B := match o with | some ns => .ok (.val (.int ns.sum)) | none => .stuck
def allO (o : Option (List Bool)) : M B := match o with | some bs => .ok (.val (.bool (bs.all id))) | none => .stuck
theorem bi_sum {xs : List D} : biD .sum [.list xs] = sumO (intsD xs) := rfl
theorem bi_all {xs : List D} : biD .all [.list xs] = allO (boolsD xs) := rfl
theorem sumO_some {ns : List Int} : sumO (some ns) = .ok (.val (.int ns.sum)) := rfl
theorem allO_some {ns : List Bool} : allO (some ns) = .ok (.val (.bool (ns.all id))) := rfl
theorem bi_min2 {i j : Int} : biD .min [.int i, .int j] = .ok (.val (.int (if j < i then j else i))) := rfl
theorem bi_max2 {i j : Int} : biD .max [.int i, .int j] = .ok (.val (.int (if j > i then j else i))) := rfl
theorem part_0 : partD [] = .ok none := rfl
theorem part_1 {i : Int} : partD [.int i] = .ok (some i) := rfl
theorem sl_l {xs : List D} {lo hi : Option Int} : slD (.list xs) lo hi = .ok (.own (cutD xs lo hi)) := rfl
theorem sl_t {xs : List D} {lo hi : Option Int} : slD (.tuple xs) lo hi = .ok (.val (.tuple (cutD xs lo hi))) := rfl
theorem bindT_nm {i : Nat} {d : D} {ρ : En} : bindT (.nm i) d ρ = .ok (ρ.set i (some (.val d))) := rfl
theorem bindT_tp {ts : List Tg} {ds : List D} {ρ : En} : bindT (.tp ts) (.tuple ds) ρ = bindTs ts ds ρ := rfl
theorem bindT_tl {ts : List Tg} {ds : List D} {ρ : En} : bindT (.tp ts) (.list ds) ρ = bindTs ts ds ρ := rfl
theorem bindTs_nil {ρ : En} : bindTs [] [] ρ = .ok ρ := rfl
theorem bindTs_cons {t : Tg} {ts : List Tg} {d : D} {ds : List D} {ρ : En} : bindTs (t :: ts) (d :: ds) ρ = (do let ρ1 ← bindT t d ρ; bindTs ts ds ρ1) := rfl
theorem it_seq {d : D} : itD .seq [d] = seqD d := rfl
theorem it_rng1 {n : Int} : itD .rng [.int n] = if smallI n then .ok (rngD 0 1 n.toNat) else .stuck := rfl
theorem it_rng2 {i j : Int} : itD .rng [.int i, .int j] = if smallI i && smallI j then .ok (rngD i 1 (j - i).toNat) else .stuck := rfl
theorem it_zip_t {xs ys : List D} : itD .zip [.tuple xs, .tuple ys] = .ok (zipD xs ys) := rfl
theorem it_zip_l {xs ys : List D} : itD .zip [.list xs, .list ys] = .ok (zipD xs ys) := rfl
theorem it_rev {d : D} : itD .rev [d] = (do let xs ← seqD d; .ok xs.reverse) := rfl
theorem turn_0 {r : M B} : turnD [] r = (do let b ← r; .ok (some b.d)) := rfl
theorem turn_t {r : M B} : turnD [.bool true] r = (do let b ← r; .ok (some b.d)) := rfl
theorem turn_f {r : M B} : turnD [.bool false] r = .ok none := rfl
theorem phi_0 {f : List D → M B} {r : List (List D → M B)} {ds : List D} : phi (f :: r) 0 ds = f ds := rfl
theorem phi_1 {f g : List D → M B} {r : List (List D → M B)} {ds : List D} : phi (f :: g :: r) 1 ds = g ds := rfl
theorem phi_2 {f g h : List D → M B} {r : List (List D → M B)} {ds : List D} : phi (f :: g :: h :: r) 2 ds = h ds := rfl
theorem phi_s {f g h k : List D → M B} {r : List (List D → M B)} {n : Nat} {ds : List D} : phi (f :: g :: h :: k :: r) (n + 3) ds = phi (k :: r) n ds := rfl
noncomputable def forF (Φ : Fs) (t : Tg) (body : List S) (d : D) (ρ : En) : M Out := do let ρ2 ← bindT t d ρ; exL Φ body ρ2
def whlC (Φ : Fs) (c : E) (ρ : En) : M D := bor ρ c (evE Φ ρ c)
noncomputable def whlF (Φ : Fs) (body : List S) (ρ : En) : M Out := exL Φ body ρ
noncomputable def nextD (Φ : Fs) (ss : List S) (r : M Out) : M Out := seqD' r (fun ρ1 => exL Φ ss ρ1)
def lcO (r : M (List D)) : M B := do let ds ← r; .ok (.own ds)
section
variable {Φ : Fs} {ρ : En} {ss a' b' body : List S} {s : S} {e c k' : E} {t : Tg} {i : Nat} {k : ItK} {es cs : List E} {own : List Nat} {d : D} {ds : List D}
theorem exL_nil : exL Φ [] ρ = .ok (.nx ρ) := by simp only [exL]
theorem exL_cons : exL Φ (s :: ss) ρ = nextD Φ ss (exS Φ s ρ) := by simp only [exL]; rfl
theorem next_nx : nextD Φ ss (.ok (.nx ρ)) = exL Φ ss ρ := rfl
theorem next_rt {b : B} : nextD Φ ss (.ok (.rt b)) = .ok (.rt b) := rfl
theorem next_ct : nextD Φ ss (.ok (.ct ρ)) = .ok (.ct ρ) := rfl
theorem next_ex {n : Nat} : nextD Φ ss (.ex n) = .ex n := rfl
theorem S_asg : exS Φ (.asg t e) ρ = (do let b ← evE Φ ρ e; let ρ1 ← bindT t b.d ρ; .ok (.nx ρ1)) := by simp only [exS]
theorem S_set : exS Φ (.set i e) ρ = (do let b ← evE Φ ρ e; .ok (.nx (ρ.set i (some b)))) := by simp only [exS]
theorem S_put : exS Φ (.put i k' e) ρ = (do let b ← evE Φ ρ e; putD ρ i ρ[i]? (bor ρ k' (evE Φ ρ k')) b.d) := by simp only [exS]
theorem S_app : exS Φ (.app i e) ρ = appD ρ i ρ[i]? (evE Φ ρ e) := by simp only [exS]
theorem S_ite : exS Φ (.ite c a' b') ρ = (do let x ← bor ρ c (evE Φ ρ c); iteD x (exL Φ a' ρ) (exL Φ b' ρ)) := by simp only [exS]
theorem S_for : exS Φ (.for t k es body) ρ = (do let ds ← evL Φ ρ es; let xs ← itD k ds; forD (forF Φ t body) xs ρ) := by simp only [exS]; rfl
theorem S_whl : exS Φ (.whl c body) ρ = whlD (whlC Φ c) (whlF Φ body) ρ := by simp only [exS]; rfl
theorem S_ret : exS Φ (.ret e) ρ = retD ρ e (evE Φ ρ e) := by simp only [exS]
theorem S_cont : exS Φ .cont ρ = .ok (.ct ρ) := by simp only [exS]
theorem S_pass : exS Φ .pass ρ = .ok (.nx ρ) := by simp only [exS]
theorem S_frz {is : List Nat} : exS Φ (.frz is s) ρ = exS Φ s (frzE ρ is) := by simp only [exS]
theorem S_raise {n : Nat} : exS Φ (.raise n) ρ = .ex n := by simp only [exS]
theorem put_own {xs : List D} {j : D} {v : D} : putD ρ i (some (some (.own xs))) (.ok j) v = putK ρ i xs j v := rfl
theorem putK_i {xs : List D} {n : Int} {v : D} : putK ρ i xs (.int n) v = (do let ys ← setAt xs n v; .ok (.nx (ρ.set i (some (.own ys))))) := rfl
theorem app_own {xs : List D} {b : B} : appD ρ i (some (some (.own xs))) (.ok b) = appK ρ i xs b.d := rfl
theorem app_ok {xs : List D} {v : D} (h : lineOk xs.length = true) : appK ρ i xs v = .ok (.nx (ρ.set i (some (.own (xs ++ [v]))))) := by unfold appK; rw [if_pos h]
theorem frz_nil : frzE ρ [] = ρ := rfl
def frzK (ρ : En) (i : Nat) (is : List Nat) (o : Option (Option B)) : En := match o with
  | some (some (.own ds)) => frzE (ρ.set i (some (.val (.list ds)))) is
  | _ => frzE ρ is
theorem frz_cons {is : List Nat} : frzE ρ (i :: is) = frzK ρ i is ρ[i]? := by
  unfold frzK
  rw [frzE]
  all_goals (split <;> split <;> simp_all)
theorem frzK_own {is : List Nat} : frzK ρ i is (some (some (.own ds))) = frzE (ρ.set i (some (.val (.list ds)))) is := rfl
theorem frzK_val {is : List Nat} : frzK ρ i is (some (some (.val d))) = frzE ρ is := rfl
theorem E_var : evE Φ ρ (.var i) = lookE ρ[i]? := by simp only [evE]
theorem E_con : evE Φ ρ (.con d) = .ok (.val d) := by simp only [evE]
theorem E_glob : evE Φ ρ (.glob i d) = .ok (.val d) := by simp only [evE]
theorem E_tup : evE Φ ρ (.tup es) = (do let ds ← evL Φ ρ es; .ok (.val (.tuple ds))) := by simp only [evE]
theorem E_lst : evE Φ ρ (.lst es) = (do let ds ← evL Φ ρ es; .ok (.own ds)) := by simp only [evE]
theorem E_rep : evE Φ ρ (.rep es e) = (do let ds ← evL Φ ρ es; let y ← bor ρ e (evE Φ ρ e); repD ds y) := by simp only [evE]
theorem E_bop {o : BOp} : evE Φ ρ (.bop o e c) = (do let x ← bor ρ e (evE Φ ρ e); let y ← bor ρ c (evE Φ ρ c); bopD o x y) := by simp only [evE]
theorem E_neg : evE Φ ρ (.neg e) = (do let x ← bor ρ e (evE Φ ρ e); negD x) := by simp only [evE]
theorem E_not : evE Φ ρ (.not e) = (do let x ← bor ρ e (evE Φ ρ e); notD x) := by simp only [evE]
theorem E_and : evE Φ ρ (.and e c) = (do let x ← bor ρ e (evE Φ ρ e); andD x (evE Φ ρ c)) := by simp only [evE]
theorem E_or : evE Φ ρ (.or e c) = (do let x ← bor ρ e (evE Φ ρ e); orD x (evE Φ ρ c)) := by simp only [evE]
theorem E_cmp {o : COp} : evE Φ ρ (.cmp o e c) = (do let x ← bor ρ e (evE Φ ρ e); let y ← bor ρ c (evE Φ ρ c); cmpD o x y) := by simp only [evE]
theorem E_ix : evE Φ ρ (.ix e c) = (do let x ← bor ρ e (evE Φ ρ e); let y ← bor ρ c (evE Φ ρ c); ixD x y) := by simp only [evE]
theorem E_sl {lo hi : List E} : evE Φ ρ (.sl e lo hi) = (do let x ← bor ρ e (evE Φ ρ e); let l ← evL Φ ρ lo; let l' ← partD l; let u ← evL Φ ρ hi; let u' ← partD u; slD x l' u') := by simp only [evE]
theorem S_tri {m : E} {d i : Nat} {sts : List (Nat × SuE)} : exS Φ (.tri m d i sts) ρ = triD d i ρ sts (evE Φ ρ m) := by simp only [exS]
theorem tri_ok {d i : Nat} {sts : List (Nat × SuE)} {b : B} : triD d i ρ sts (.ok b) = .ok (.nx ρ) := rfl
theorem tri_ex {d i : Nat} {sts : List (Nat × SuE)} (h : i < ρ.length) : triD d i ρ sts (.ex d) = (do let ρ1 ← runSu i (ρ.set i none) sts; .ok (.nx ρ1)) := by
  unfold triD
  dsimp only
  rw [if_pos ⟨rfl, h⟩]
theorem su_nil {i : Nat} : runSu i ρ [] = .ok (ρ.set i none) := rfl
theorem su_cons {i j : Nat} {m : SuE} {r : List (Nat × SuE)} : runSu i ρ ((j, m) :: r) = (do let d ← suD ρ m; runSu i (ρ.set j (some (.val d))) r) := rfl
theorem suD_is {b : Bool} : suD ρ (.is b) = .ok (.bool b) := rfl
theorem suD_con {b : Bool} : suD ρ (.con b) = .ok (.bool b) := rfl
theorem suD_two : suD ρ .two = .ok (.bool true) := rfl
theorem suD_lst {bs : List Bool} : suD ρ (.lst bs) = .ok (.list (bs.map PyData.bool)) := rfl
theorem suD_cat {j : Nat} {bs : List Bool} : suD ρ (.cat j bs) = suCat bs ρ[j]? := rfl
theorem suCat_l {bs : List Bool} {xs : List D} (h : lineOk (xs.length + bs.length) = true) : suCat bs (some (some (.val (.list xs)))) = .ok (.list (xs ++ bs.map PyData.bool)) := by
  unfold suCat
  dsimp only
  rw [if_pos h]
theorem E_sl3 {lo hi st : List E} : evE Φ ρ (.sl3 e lo hi st) = (do let x ← bor ρ e (evE Φ ρ e); let l ← evL Φ ρ lo; let l' ← partD l; let u ← evL Φ ρ hi; let u' ← partD u; let k ← evL Φ ρ st; let k' ← partD k; sl3D x l' u' k') := by simp only [evE]
theorem E_inr {neg : Bool} {bs : List E} : evE Φ ρ (.inr neg e bs) = (do let x ← bor ρ e (evE Φ ρ e); let ds ← evL Φ ρ bs; inrD neg x ds) := by simp only [evE]
theorem E_call0 {k : Nat} : evE Φ ρ (.call0 k) = safeD (Φ k []) := by simp only [evE]
theorem E_bi {f : Bi} : evE Φ ρ (.bi f es) = (do let ds ← evBs Φ ρ es; biD f ds) := by simp only [evE]
theorem E_isi {y : Ty} : evE Φ ρ (.isi e y) = (do let x ← bor ρ e (evE Φ ρ e); isiD y x) := by simp only [evE]
theorem E_call : evE Φ ρ (.call i es) = (do let ds ← evL Φ ρ es; Φ i ds) := by simp only [evE]
theorem E_lc : evE Φ ρ (.lc e t k es cs own) = (do let ds ← evBs Φ ρ es; let xs ← itD k ds; if lineOk xs.length then lcO (lcD (lcF Φ ρ e t cs own) xs) else .stuck) := by simp only [evE]; rfl
theorem lcO_ok : lcO (.ok ds) = .ok (.own ds) := rfl
theorem L_nil : evL Φ ρ [] = .ok [] := by simp only [evL]
theorem L_cons : evL Φ ρ (e :: es) = (do let b ← evE Φ ρ e; let ds ← evL Φ ρ es; .ok (b.d :: ds)) := by simp only [evL]
theorem Bs_nil : evBs Φ ρ [] = .ok [] := by simp only [evBs]
theorem Bs_cons : evBs Φ ρ (e :: es) = (do let b ← bor ρ e (evE Φ ρ e); let ds ← evBs Φ ρ es; .ok (b :: ds)) := by simp only [evBs]
theorem forF_eq : forF Φ t body d ρ = (do let ρ2 ← bindT t d ρ; exL Φ body ρ2) := rfl
theorem whlC_eq : whlC Φ c ρ = bor ρ c (evE Φ ρ c) := rfl
theorem whlF_eq : whlF Φ body ρ = exL Φ body ρ := rfl
theorem lcF_eq : lcF Φ ρ e t cs own d = (do let ρ1 ← bindT t d (wipeN ρ own); let ds ← evBs Φ ρ1 cs; turnD ds (evE Φ ρ1 e)) := rfl
theorem wipe_nil : wipeN ρ [] = ρ := rfl
theorem wipe_cons {vs : List Nat} : wipeN ρ (i :: vs) = (wipeN ρ vs).set i none := rfl
def forK (f : D → En → M Out) (ds : List D) (r : M Out) : M Out := match r with
  | .ok (.nx ρ1) => forD f ds ρ1
  | .ok (.ct ρ1) => forD f ds ρ1
  | o => o
theorem for_nil {f : D → En → M Out} : forD f [] ρ = .ok (.nx ρ) := rfl
theorem for_cons {f : D → En → M Out} : forD f (d :: ds) ρ = forK f ds (f d ρ) := rfl
theorem forK_nx {f : D → En → M Out} : forK f ds (.ok (.nx ρ)) = forD f ds ρ := rfl
theorem forK_ct {f : D → En → M Out} : forK f ds (.ok (.ct ρ)) = forD f ds ρ := rfl
theorem forK_rt {f : D → En → M Out} {b : B} : forK f ds (.ok (.rt b)) = .ok (.rt b) := rfl
def lcK (o : M (Option D)) (r : M (List D)) : M (List D) := match o with
  | .ok (some x) => (match r with | .ok ys => .ok (x :: ys) | _ => .stuck)
  | .ok none => r
  | _ => .stuck
theorem lc_nil {f : D → M (Option D)} : lcD f [] = .ok [] := rfl
theorem lc_cons {f : D → M (Option D)} : lcD f (d :: ds) = lcK (f d) (lcD f ds) := rfl
theorem lcK_some {xs : List D} : lcK (.ok (some d)) (.ok xs) = .ok (d :: xs) := rfl
theorem lcK_none {r : M (List D)} : lcK (.ok none) r = r := rfl
end
theorem fdiv_pos {i j : Int} (h : 0 < j) : i.fdiv j = i / j := Int.fdiv_eq_ediv_of_nonneg i (by omega)
theorem fmod_pos {i j : Int} (h : 0 < j) : i.fmod j = i % j := Int.fmod_eq_emod_of_nonneg i (by omega)
theorem divOk_of {i j : Int} (h : j ≠ 0) (hl : j.natAbs < 2 ^ 9000) : divOk i j = true := by
  unfold divOk
  have : j.natAbs.log2 < 9000 := by
    by_cases h0 : j.natAbs = 0
    · omega
    · exact (Nat.log2_lt h0).mpr hl
  rw [PyProof.noPylong_of_log2 this]
  simp [h]
theorem mulOk_of {i j : Int} {a b : Nat} (ha : i.natAbs < 2 ^ a) (hb : j.natAbs < 2 ^ b) (h : a + b ≤ 1000000) : mulOk i j = true := by
  unfold mulOk
  refine decide_eq_true ?_
  have l : ∀ {n k : Nat}, n < 2 ^ k → n.log2 < k + 1 ∧ (n ≠ 0 → n.log2 < k) := fun {n k} h => by
    by_cases h0 : n = 0
    · subst h0; exact ⟨by rw [show Nat.log2 0 = 0 by decide +kernel]; omega, fun z => absurd rfl z⟩
    · have := (Nat.log2_lt h0).mpr h
      exact ⟨by omega, fun _ => this⟩
  by_cases h1 : i.natAbs = 0
  · rw [h1, show Nat.log2 0 = 0 by decide +kernel]
    by_cases h2 : j.natAbs = 0
    · rw [h2, show Nat.log2 0 = 0 by decide +kernel]; omega
    · have := (l hb).2 h2; omega
  · have := (l ha).2 h1
    by_cases h2 : j.natAbs = 0
    · rw [h2, show Nat.log2 0 = 0 by decide +kernel]; omega
    · have := (l hb).2 h2; omega
theorem eqv_int (a b : Int) : PyData.eqv (.int a) (.int b) = (a == b) := by simp only [PyData.eqv]
theorem eqOk_int (a b : Int) : eqOk (.int a) (.int b) = true := by
  unfold eqOk SeqAt.shaped
  simp [PyData.canLay0, PyData.depth]
theorem itL {xs : List D} : seqD (.list xs) = .ok xs := rfl
theorem itT {xs : List D} : seqD (.tuple xs) = .ok xs := rfl
theorem pow10_9 : bopD .pow (.int 10) (.int 9) = .ok (.val (.int (10 ^ 9))) := by rw [pow_ii, if_pos (by decide)]; rfl
theorem pow10_10 : bopD .pow (.int 10) (.int 10) = .ok (.val (.int (10 ^ 10))) := by rw [pow_ii, if_pos (by decide)]; rfl
theorem pow10_12 : bopD .pow (.int 10) (.int 12) = .ok (.val (.int (10 ^ 12))) := by rw [pow_ii, if_pos (by decide)]; rfl
theorem pow10_15 : bopD .pow (.int 10) (.int 15) = .ok (.val (.int (10 ^ 15))) := by rw [pow_ii, if_pos (by decide)]; rfl
theorem pow10_20 : bopD .pow (.int 10) (.int 20) = .ok (.val (.int (10 ^ 20))) := by rw [pow_ii, if_pos (by decide)]; rfl
theorem pow10_30 : bopD .pow (.int 10) (.int 30) = .ok (.val (.int (10 ^ 30))) := by rw [pow_ii, if_pos (by decide)]; rfl
theorem pow10_60 : bopD .pow (.int 10) (.int 60) = .ok (.val (.int (10 ^ 60))) := by rw [pow_ii, if_pos (by decide)]; rfl
theorem pow10_120 : bopD .pow (.int 10) (.int 120) = .ok (.val (.int (10 ^ 120))) := by rw [pow_ii, if_pos (by decide)]; rfl
theorem small_nat {n : Int} (h0 : 0 ≤ n) (h : n < 1000000000) : smallI n = true := by
  unfold smallI
  rw [Bool.and_eq_true]
  exact ⟨decide_eq_true (by omega), decide_eq_true (by omega)⟩
theorem line_lt {n : Nat} (h : n < 1000000) : lineOk n = true := decide_eq_true h
theorem mul_ii' {i j : Int} (h : mulOk i j = true) : bopD .mul (.int i) (.int j) = .ok (.val (.int (i * j))) := by rw [mul_ii, if_pos h]
theorem fdiv_ii' {i j : Int} (h : divOk i j = true) : bopD .fdiv (.int i) (.int j) = .ok (.val (.int (i.fdiv j))) := by rw [fdiv_ii, if_pos h]
theorem mod_ii' {i j : Int} (h : j ≠ 0) : bopD .mod (.int i) (.int j) = .ok (.val (.int (i.fmod j))) := by rw [mod_ii, if_pos (by simpa using h)]
theorem eq_ii {i j : Int} : cmpD .eq (.int i) (.int j) = .ok (.val (.bool (i == j))) := by rw [eq_dd, eqOk_int, if_pos rfl, eqv_int]
theorem ne_ii {i j : Int} : cmpD .ne (.int i) (.int j) = .ok (.val (.bool (!(i == j)))) := by rw [ne_dd, eqOk_int, if_pos rfl, eqv_int]
theorem bd_add {a b : Int} {n m : Nat} (ha : a.natAbs < 2 ^ n) (hb : b.natAbs < 2 ^ m) : (a + b).natAbs < 2 ^ (max n m + 1) := by
  have h1 : 2 ^ n ≤ 2 ^ max n m := Nat.pow_le_pow_right (by decide) (Nat.le_max_left _ _)
  have h2 : 2 ^ m ≤ 2 ^ max n m := Nat.pow_le_pow_right (by decide) (Nat.le_max_right _ _)
  rw [Nat.pow_succ]
  omega
theorem bd_sub {a b : Int} {n m : Nat} (ha : a.natAbs < 2 ^ n) (hb : b.natAbs < 2 ^ m) : (a - b).natAbs < 2 ^ (max n m + 1) := by
  have h1 : 2 ^ n ≤ 2 ^ max n m := Nat.pow_le_pow_right (by decide) (Nat.le_max_left _ _)
  have h2 : 2 ^ m ≤ 2 ^ max n m := Nat.pow_le_pow_right (by decide) (Nat.le_max_right _ _)
  rw [Nat.pow_succ]
  omega
theorem bd_neg {a : Int} {n : Nat} (ha : a.natAbs < 2 ^ n) : (-a).natAbs < 2 ^ n := by rwa [Int.natAbs_neg]
theorem bd_mul {a b : Int} {n m : Nat} (ha : a.natAbs < 2 ^ n) (hb : b.natAbs < 2 ^ m) : (a * b).natAbs < 2 ^ (n + m) := by
  rw [Int.natAbs_mul, Nat.pow_add]
  exact Nat.mul_lt_mul'' ha hb
theorem bd_lit {a : Int} {n : Nat} (e : n = 8) (h : a.natAbs < 256) : a.natAbs < 2 ^ n := by subst e; exact h
theorem bd_mono {a : Int} {n m : Nat} (h : a.natAbs < 2 ^ n) (hl : n ≤ m) : a.natAbs < 2 ^ m := Nat.lt_of_lt_of_le h (Nat.pow_le_pow_right (by decide) hl)
theorem for_in {C : M Out → Prop} {f : D → En → M Out} {xs : List D} {ρ : En} (Pv : Nat → En → Prop) (h0 : Pv 0 ρ) (hs : ∀ (i : Nat) (d : D) (ρ : En), xs[i]? = some d → Pv i ρ → ∃ ρ1, (f d ρ = .ok (.nx ρ1) ∨ f d ρ = .ok (.ct ρ1)) ∧ Pv (i + 1) ρ1)
    (hd : ∀ ρ1, Pv xs.length ρ1 → C (.ok (.nx ρ1))) : C (forD f xs ρ) := by
  obtain ⟨ρ1, h1, h2⟩ := for_by Pv h0 hs
  rw [h1]
  exact hd ρ1 h2
theorem whl_in {C : M Out → Prop} {c : En → M D} {f : En → M Out} {ρ : En} (Pv : En → Prop) (μ : En → Nat) (Qv : En → Prop) (h0 : Pv ρ) (h : ∀ ρ, Pv ρ → (c ρ = .ok (.bool false) ∧ Qv ρ) ∨ (c ρ = .ok (.bool true) ∧ ∃ ρ1, f ρ = .ok (.nx ρ1) ∧ Pv ρ1 ∧ μ ρ1 < μ ρ))
    (hd : ∀ ρ1, Qv ρ1 → C (.ok (.nx ρ1))) : C (whlD c f ρ) := by
  obtain ⟨ρ1, h1, h2⟩ := whl_by Pv μ Qv h ρ h0
  rw [h1]
  exact hd ρ1 h2
theorem mod_rng {a b : Int} (h : 0 < b) : 0 ≤ a % b ∧ a % b < b := ⟨Int.emod_nonneg _ (by omega), Int.emod_lt_of_pos _ h⟩
end Tg
namespace Tg
open PySem PySem.Spec PyProof.Rows L2
structure ExcK (K : PySem.W.Frag) (x : Str) (C : Addr) : Prop where
  a : PySem.W.nsIn K mainGlobals x = some (some (.ref C))
  b : PySem.W.excIn K C HandSPX.veTail "ValueError.__new__" = true
  c : PySem.W.keepIn K (.ref C) = true
  d : PySem.W.subIn K (.ref C) (.type "BaseException") = some true
  e : PySem.W.typeIn K (.ref C) = some (.type "type")
theorem exck_mk {K : PySem.W.Frag} {x : Str} {C : Addr} (a : PySem.W.nsIn K mainGlobals x = some (some (.ref C))) (b : PySem.W.excIn K C HandSPX.veTail "ValueError.__new__" = true)
    (c : PySem.W.keepIn K (.ref C) = true) (d : PySem.W.subIn K (.ref C) (.type "BaseException") = some true) (e : PySem.W.typeIn K (.ref C) = some (.type "type")) : ExcK K x C := ⟨a, b, c, d, e⟩
def evK (K : PySem.W.Frag) (xs : List Str) (k : Nat) : Value := match xs[k]? with
  | some x => (match PySem.W.nsIn K mainGlobals x with
    | some (some v) => v
    | _ => .none)
  | none => .none
abbrev spK (K : PySem.W.Frag) (n : Nat) (den : List D → M B) (xs : List Str) : Sp := spP K n den (evK K xs)
theorem hx_nil {K : PySem.W.Frag} : ∀ (k : Nat) (y : Str), ([] : List Str)[k]? = some y → ∃ C, ExcK K y C := fun k y e => by simp at e
theorem hx_cons {K : PySem.W.Frag} {x : Str} {xs : List Str} {C : Addr} (h : ExcK K x C) (r : ∀ (k : Nat) (y : Str), xs[k]? = some y → ∃ C, ExcK K y C) :
    ∀ (k : Nat) (y : Str), (x :: xs)[k]? = some y → ∃ D, ExcK K y D
  | 0, y, e => by
    simp only [List.getElem?_cons_zero, Option.some.injEq] at e
    subst e
    exact ⟨C, h⟩
  | k + 1, y, e => r k y (by simpa using e)
theorem hx_of {K : PySem.W.Frag} {mg : Str → Option Value} {h : Heap} {xs : List Str} (X : K.In h) (G : h.Ns mainGlobals mg) (r : ∀ (k : Nat) (y : Str), xs[k]? = some y → ∃ C, ExcK K y C) :
    ∀ (k : Nat) (y : Str), xs[k]? = some y → ExcAt K mg (evK K xs) k y := fun k y e => by
  obtain ⟨C, h2⟩ := r k y e
  refine ⟨⟨C, ?_, PySem.W.mg_of X G h2.a, h2.b, h2.c, h2.d, h2.e⟩⟩
  unfold evK
  rw [e]
  dsimp only
  rw [h2.a]
theorem kit0 {K : PySem.W.Frag} {mg : Str → Option Value} {ev : Nat → Value} : ∀ (d : Nat) (x : Str) (b : Bool), (d, x, b) ∈ ([] : List (Nat × Str × Bool)) → KitAt K mg ev d x b := fun d x b h => by cases h
theorem hnd0 {K : PySem.W.Frag} {mg : Str → Option Value} {ev : Nat → Value} : ∀ (d : Nat) (x : Str), (d, x) ∈ ([] : List (Nat × Str)) → HndAt K mg ev d x := fun d x h => by cases h
theorem for_fold {α σ : Type} {f : D → En → M Out} {g : α → D} {step : σ → α → σ} (Rel : σ → En → Prop) : ∀ {xs : List α} {s : σ} {ρ : En},
    (∀ x ∈ xs, ∀ (s : σ) (ρ : En), Rel s ρ → ∃ ρ1, (f (g x) ρ = .ok (.nx ρ1) ∨ f (g x) ρ = .ok (.ct ρ1)) ∧ Rel (step s x) ρ1) → Rel s ρ → ∃ ρ1, forD f (xs.map g) ρ = .ok (.nx ρ1) ∧ Rel (xs.foldl step s) ρ1
  | [], s, ρ, _, h => ⟨ρ, rfl, h⟩
  | x :: xs, s, ρ, hs, h => by
    obtain ⟨ρ1, h1, h2⟩ := hs x List.mem_cons_self s ρ h
    obtain ⟨ρ2, q1, q2⟩ := for_fold Rel (xs := xs) (fun y hy => hs y (List.mem_cons_of_mem _ hy)) h2
    refine ⟨ρ2, ?_, q2⟩
    rw [List.map_cons, for_cons]
    rcases h1 with h1 | h1 <;> rw [h1] <;> exact q1
theorem rng_map {n : Nat} : ∀ {lo c : Int}, rngD lo c n = (List.range n).map fun i => PyData.int (lo + c * (i : Nat)) := by
  induction n with
  | zero => intros; rfl
  | succ n ih =>
    intro lo c
    rw [List.range_succ_eq_map, List.map_cons, List.map_map, rngD, ih]
    refine congr (congrArg _ (by simp)) (List.map_congr_left fun i _ => ?_)
    simp only [Function.comp, PyData.int.injEq, Int.natCast_succ, Int.mul_add, Int.mul_one]
    omega
theorem rng_map1 {n : Nat} : rngD 0 1 n = (List.range n).map fun i => PyData.int (i : Nat) := by
  rw [rng_map]
  exact List.map_congr_left fun i _ => by simp
def valsD : List D → List Int
  | [] => []
  | .int i :: r => i :: valsD r
  | _ :: r => 0 :: valsD r
def allI : List D → Bool
  | [] => true
  | .int _ :: r => allI r
  | _ :: _ => false
theorem vals_nil : valsD [] = [] := rfl
theorem vals_cons {i : Int} {r : List D} : valsD (.int i :: r) = i :: valsD r := rfl
theorem allI_nil : allI [] = true := rfl
theorem allI_cons {i : Int} {r : List D} : allI (.int i :: r) = allI r := rfl
theorem vals_map : ∀ {xs : List Int}, valsD (xs.map PyData.int) = xs
  | [] => rfl
  | x :: xs => congrArg (x :: ·) (vals_map (xs := xs))
theorem allI_map : ∀ {xs : List Int}, allI (xs.map PyData.int) = true
  | [] => rfl
  | x :: xs => allI_map (xs := xs)
theorem vals_app : ∀ {xs ys : List D}, valsD (xs ++ ys) = valsD xs ++ valsD ys
  | [], _ => rfl
  | d :: xs, ys => by cases d <;> exact congrArg (_ :: ·) (vals_app (xs := xs) (ys := ys))
theorem allI_app : ∀ {xs ys : List D}, allI (xs ++ ys) = (allI xs && allI ys)
  | [], _ => rfl
  | d :: xs, ys => by cases d <;> first | exact allI_app (xs := xs) (ys := ys) | rfl
theorem vals_eq : ∀ {ds : List D}, allI ds = true → ds = (valsD ds).map PyData.int
  | [], _ => rfl
  | d :: ds, h => by cases d <;> first | exact congrArg (_ :: ·) (vals_eq (ds := ds) h) | cases h
theorem ints_map : ∀ {xs : List Int}, intsD (xs.map PyData.int) = some xs
  | [] => rfl
  | x :: xs => by rw [List.map_cons, intsD, ints_map]; rfl
theorem ints_all {ds : List D} (h : allI ds = true) : intsD ds = some (valsD ds) := by
  rw [vals_eq h, ints_map, vals_map]
def Go (P : En → Prop) : M Out → Prop
  | .ok (.nx ρ) => P ρ
  | .ok (.ct ρ) => P ρ
  | _ => False
theorem go_nx {P : En → Prop} {ρ : En} : Go P (.ok (.nx ρ)) = P ρ := rfl
theorem go_ct {P : En → Prop} {ρ : En} : Go P (.ok (.ct ρ)) = P ρ := rfl
theorem go_ex {P : En → Prop} {r : M Out} (h : Go P r) : ∃ ρ1, (r = .ok (.nx ρ1) ∨ r = .ok (.ct ρ1)) ∧ P ρ1 := by
  cases r with
  | ok o => cases o with
    | nx ρ => exact ⟨ρ, .inl rfl, h⟩
    | ct ρ => exact ⟨ρ, .inr rfl, h⟩
    | rt b => exact h.elim
  | stuck => exact h.elim
  | ex c => exact h.elim
def Ret (P : B → Prop) (r : M B) : Prop := ∃ b, r = .ok b ∧ P b
theorem ret_ok {P : B → Prop} {b : B} : Ret P (.ok b) = P b := propext ⟨fun ⟨_, e, h⟩ => by cases e; exact h, fun h => ⟨_, rfl, h⟩⟩
theorem for_ret {Φ : Fs} {ss : List S} {P : B → Prop} {f : D → En → M Out} {xs : List D} {ρ : En} (Pv : Nat → En → Prop) (h0 : Pv 0 ρ) (hs : ∀ (i : Nat) (d : D) (ρ : En), xs[i]? = some d → Pv i ρ → Go (Pv (i + 1)) (f d ρ))
    (hd : ∀ ρ1, Pv xs.length ρ1 → Ret P (endD (exL Φ ss ρ1))) : Ret P (endD (nextD Φ ss (forD f xs ρ))) := for_in (C := fun z => Ret P (endD (nextD Φ ss z))) Pv h0 (fun i d ρ h1 h2 => go_ex (hs i d ρ h1 h2)) hd
theorem map_get {α : Type} {g : α → D} {xs : List α} {i : Nat} {d : D} (h : (xs.map g)[i]? = some d) : ∃ x, xs[i]? = some x ∧ d = g x := by
  rw [List.getElem?_map] at h
  cases e : xs[i]? with
  | none => rw [e] at h; cases h
  | some x => rw [e] at h; cases h; exact ⟨x, rfl, rfl⟩
theorem take_at {α : Type} {xs : List α} {i : Nat} {x : α} (h : xs[i]? = some x) : xs.take (i + 1) = xs.take i ++ [x] := by
  rw [List.take_succ, h]; rfl
theorem turn_b {c : Bool} {b : B} : turnD [.bool c] (.ok b) = .ok (if c then some b.d else none) := by cases c <;> rfl
theorem lc_filt {f : D → M (Option D)} {p : Int → Bool} : ∀ {xs : List Int}, (∀ x ∈ xs, f (.int x) = .ok (if p x then some (.int x) else none)) → lcD f (xs.map PyData.int) = .ok ((xs.filter p).map PyData.int)
  | [], _ => rfl
  | x :: xs, h => by
    rw [List.map_cons, lc_cons, h x List.mem_cons_self, lc_filt fun y hy => h y (List.mem_cons_of_mem _ hy), List.filter_cons]
    cases p x <;> rfl
theorem euclid {c : En → M D} {f : En → M Out} (R : Nat → Nat → En) (hc0 : ∀ a, c (R a 0) = .ok (.bool false)) (hc : ∀ a b, c (R a (b + 1)) = .ok (.bool true)) (hf : ∀ a b, f (R a (b + 1)) = .ok (.nx (R (b + 1) (a % (b + 1))))) :
    ∀ b a, whlD c f (R a b) = .ok (.nx (R (Nat.gcd a b) 0)) := by
  intro b
  induction b using Nat.strongRecOn with
  | _ b ih =>
    intro a
    cases b with
    | zero => rw [Nat.gcd_zero_right]; exact whlD_false (hc0 a)
    | succ b =>
      refine whlD_true (hc a b) (hf a b) ?_ (fun z => nomatch z)
      rw [ih _ (Nat.mod_lt _ (Nat.succ_pos b)), Nat.gcd_comm a, Nat.gcd_rec (b + 1) a, Nat.gcd_comm]
def gcdL (xs : List Int) : Nat := xs.foldl (fun g x => Nat.gcd g x.natAbs) 0
theorem gcdF_dvd : ∀ {xs : List Int} {g : Nat}, xs.foldl (fun g x => Nat.gcd g x.natAbs) g ∣ g ∧ ∀ x ∈ xs, ((xs.foldl (fun g x => Nat.gcd g x.natAbs) g : Nat) : Int) ∣ x
  | [], g => ⟨Nat.dvd_refl g, fun x hx => by cases hx⟩
  | y :: ys, g => by
    obtain ⟨h1, h2⟩ := gcdF_dvd (xs := ys) (g := Nat.gcd g y.natAbs)
    refine ⟨Nat.dvd_trans h1 (Nat.gcd_dvd_left _ _), fun x hx => ?_⟩
    rcases List.mem_cons.mp hx with rfl | hx
    · exact Int.ofNat_dvd_left.mpr (Nat.dvd_trans h1 (Nat.gcd_dvd_right _ _))
    · exact h2 x hx
theorem dvd_gcdF : ∀ {xs : List Int} {g d : Nat}, d ∣ g → (∀ x ∈ xs, (d : Int) ∣ x) → d ∣ xs.foldl (fun g x => Nat.gcd g x.natAbs) g
  | [], _, _, h, _ => h
  | y :: ys, _, _, h, hx => dvd_gcdF (xs := ys) (Nat.dvd_gcd h (Int.ofNat_dvd_left.mp (hx y List.mem_cons_self))) fun x h => hx x (List.mem_cons_of_mem _ h)
theorem gcdL_dvd {xs : List Int} {x : Int} (h : x ∈ xs) : (gcdL xs : Int) ∣ x := gcdF_dvd.2 x h
theorem dvd_gcdL {xs : List Int} {d : Nat} (h : ∀ x ∈ xs, (d : Int) ∣ x) : d ∣ gcdL xs := dvd_gcdF (Nat.dvd_zero d) h
theorem gcdL_eq {xs : List Int} {d : Nat} (h : ∀ x ∈ xs, (d : Int) ∣ x) (h2 : ∀ e : Nat, (∀ x ∈ xs, (e : Int) ∣ x) → e ∣ d) : gcdL xs = d :=
  Nat.dvd_antisymm (h2 _ fun _ hx => gcdL_dvd hx) (dvd_gcdL h)
theorem gcdL_zero {xs : List Int} (h : gcdL xs = 0) {x : Int} (hx : x ∈ xs) : x = 0 := by
  have := gcdL_dvd hx
  rw [h] at this
  exact Int.zero_dvd.mp this
theorem gcdL_pos {xs : List Int} {x : Int} (hx : x ∈ xs) (h : x ≠ 0) : 0 < gcdL xs := by
  rcases Nat.eq_zero_or_pos (gcdL xs) with e | e
  · exact absurd (gcdL_zero e hx) h
  · exact e
theorem gcdL_scale {xs : List Int} {m : Int} : gcdL (xs.map (m * ·)) = m.natAbs * gcdL xs := by
  have : ∀ (xs : List Int) (g : Nat), (xs.map (m * ·)).foldl (fun g x => Nat.gcd g x.natAbs) (m.natAbs * g) = m.natAbs * xs.foldl (fun g x => Nat.gcd g x.natAbs) g := by
    intro xs
    induction xs with
    | nil => intro g; rfl
    | cons y ys ih => intro g; rw [List.map_cons, List.foldl_cons, List.foldl_cons, Int.natAbs_mul, Nat.gcd_mul_left]; exact ih _
  exact this xs 0
theorem gcdL_bd {xs : List Int} {x : Int} {n : Nat} (hx : x ∈ xs) (h0 : x ≠ 0) (h : x.natAbs < 2 ^ n) : (gcdL xs : Int).natAbs < 2 ^ n := by
  have := Nat.le_of_dvd (by omega) (Int.ofNat_dvd_left.mp (gcdL_dvd hx))
  simp only [Int.natAbs_natCast]
  omega
def near (c m : Int) : Int := if m < c % (2 * m + 1) then c % (2 * m + 1) - (2 * m + 1) else c % (2 * m + 1)
theorem near_le {c m : Int} (h : 0 ≤ m) : (near c m).natAbs ≤ m.natAbs := by
  unfold near
  have h1 := Int.emod_nonneg c (show 2 * m + 1 ≠ 0 by omega)
  have h2 := Int.emod_lt_of_pos c (show 0 < 2 * m + 1 by omega)
  split <;> omega
theorem small_i {k : Int} (h0 : -1000000000 ≤ k) (h : k < 1000000000) : smallI k = true := by
  unfold smallI
  rw [Bool.and_eq_true]
  exact ⟨decide_eq_true (by omega), decide_eq_true (by omega)⟩
def cellI (ns : List Int) (k : Int) : Int := ns.getD k.toNat 0
end Tg
namespace Tg
open PySem PySem.Spec PyProof.Rows L2
end Tg
namespace Tg
open PySem
end Tg
namespace Tg
open PySem PySem.Spec PyProof.Rows L2
theorem dq4 {K : PySem.W.Frag} {F : Hp} {a : Addr} {o : Obj} {u v w s : Value} {n : Nat} {x y z t : V} {d e f g : D} (h : K.lookup a = some o) (c : o.cls = .type "tuple") (q : o.data = .seq #[u, v, w, s] n) (r1 : RelV x u) (r2 : RelV y v) (r3 : RelV z w) (r4 : RelV t s)
    (d1 : Dq K F x d) (d2 : Dq K F y e) (d3 : Dq K F z f) (d4 : Dq K F t g) : Dq K F (.ref a) (.tuple [d, e, f, g]) :=
  .tup (.inr ⟨o, #[u, v, w, s], n, h, c, q, by show 4 ≤ sizeLine; decide, .cons r1 (.cons r2 (.cons r3 (.cons r4 .nil)))⟩) (.cons d1 (.cons d2 (.cons d3 (.cons d4 .nil))))
theorem con_mk {K : PySem.W.Frag} {h : Heap} {mg : Str → Option Value} {x : Str} {a : Addr} {d : D} (X : K.In h) (G : h.Ns mainGlobals mg) (e : PySem.W.nsIn K mainGlobals x = some (some (.ref a))) (q : ∀ F, Dq K F (.ref a) d) : ∃ v u, mg x = some u ∧ RelV v u ∧ ∀ F, Dq K F v d :=
  ⟨.ref a, .ref a, PySem.W.mg_of X G e, rfl, q⟩
end Tg
namespace Lb
open PySem Tg
def b_divisor : List S :=
   [.asg (.nm 1) (.con (.int 0)),
    .for (.nm 2) .seq [.var 0] [.asg (.nm 3) (.bi .abs [.var 2]), .whl (.cmp .ne (.var 3) (.con (.int 0))) [.asg (.tp [.nm 1, .nm 3]) (.tup [.var 3, .bop .mod (.var 1) (.var 3)])]],
    .ret (.var 1)]
noncomputable def d_divisor : List D → M B := runF (phi []) 1 4 b_divisor
theorem o_divisor {x0 : D} {r : M B} (h : endD (exL (phi []) b_divisor [some (.val x0), none, none, none]) = r) : d_divisor [x0] = r := run_of rfl rfl h
def b_ldivisor : List S :=
   [.asg (.nm 1) (.con (.int 0)),
    .for (.nm 2) .seq [.var 0] [.asg (.nm 3) (.bi .abs [.var 2]), .whl (.cmp .gt (.var 3) (.con (.int 0))) [.asg (.tp [.nm 1, .nm 3]) (.tup [.var 3, .bop .mod (.var 1) (.var 3)])]],
    .ret (.var 1)]
noncomputable def d_ldivisor : List D → M B := runF (phi []) 1 4 b_ldivisor
theorem o_ldivisor {x0 : D} {r : M B} (h : endD (exL (phi []) b_ldivisor [some (.val x0), none, none, none]) = r) : d_ldivisor [x0] = r := run_of rfl rfl h
def b_euclid : List S :=
   [.asg (.nm 0) (.bi .abs [.var 0]),
    .asg (.nm 1) (.bi .abs [.var 1]),
    .whl (.cmp .gt (.var 1) (.con (.int 0))) [.asg (.tp [.nm 0, .nm 1]) (.tup [.var 1, .bop .mod (.var 0) (.var 1)])],
    .ret (.var 0)]
noncomputable def d_euclid : List D → M B := runF (phi []) 2 2 b_euclid
theorem o_euclid {x0 x1 : D} {r : M B} (h : endD (exL (phi []) b_euclid [some (.val x0), some (.val x1)]) = r) : d_euclid [x0, x1] = r := run_of rfl rfl h
def b_cell : List S :=
   [.ite (.cmp .lt (.var 1) (.bi .len [.var 0])) [.ret (.ix (.var 0) (.var 1))] [],
    .ret (.con (.int 0))]
noncomputable def d_cell : List D → M B := runF (phi []) 2 2 b_cell
theorem o_cell {x0 x1 : D} {r : M B} (h : endD (exL (phi []) b_cell [some (.val x0), some (.val x1)]) = r) : d_cell [x0, x1] = r := run_of rfl rfl h
def b_near : List S :=
   [.asg (.nm 2) (.bop .mod (.var 0) (.bop .add (.bop .mul (.con (.int 2)) (.var 1)) (.con (.int 1)))),
    .ite (.cmp .gt (.var 2) (.var 1)) [.ret (.bop .sub (.var 2) (.bop .add (.bop .mul (.con (.int 2)) (.var 1)) (.con (.int 1))))] [],
    .ret (.var 2)]
noncomputable def d_near : List D → M B := runF (phi []) 2 3 b_near
theorem o_near {x0 x1 : D} {r : M B} (h : endD (exL (phi []) b_near [some (.val x0), some (.val x1), none]) = r) : d_near [x0, x1] = r := run_of rfl rfl h
def b_whole : List S :=
   [.ret (.and (.isi (.var 0) .int) (.not (.isi (.var 0) .bool)))]
noncomputable def d_whole : List D → M B := runF (phi []) 1 1 b_whole
theorem o_whole {x0 : D} {r : M B} (h : endD (exL (phi []) b_whole [some (.val x0)]) = r) : d_whole [x0] = r := run_of rfl rfl h
def b_product : List S :=
   [.asg (.tp [.nm 5, .nm 6, .nm 7, .nm 8]) (.var 0),
    .asg (.tp [.nm 9, .nm 10, .nm 11, .nm 12]) (.var 1),
    .asg (.nm 2) (.bop .sub (.bop .sub (.bop .sub (.bop .mul (.var 5) (.var 9)) (.bop .mul (.var 6) (.var 10))) (.bop .mul (.var 7) (.var 11))) (.bop .mul (.var 8) (.var 12))),
    .asg (.nm 3) (.bop .sub (.bop .add (.bop .add (.bop .mul (.var 5) (.var 10)) (.bop .mul (.var 6) (.var 9))) (.bop .mul (.var 7) (.var 12))) (.bop .mul (.var 8) (.var 11))),
    .asg (.nm 4) (.bop .add (.bop .add (.bop .sub (.bop .mul (.var 5) (.var 11)) (.bop .mul (.var 6) (.var 12))) (.bop .mul (.var 7) (.var 9))) (.bop .mul (.var 8) (.var 10))),
    .ret (.tup [.var 2, .var 3, .var 4, .bop .add (.bop .sub (.bop .add (.bop .mul (.var 5) (.var 12)) (.bop .mul (.var 6) (.var 11))) (.bop .mul (.var 7) (.var 10))) (.bop .mul (.var 8) (.var 9))])]
noncomputable def d_product : List D → M B := runF (phi []) 2 13 b_product
theorem o_product {x0 x1 : D} {r : M B} (h : endD (exL (phi []) b_product [some (.val x0), some (.val x1), none, none, none, none, none, none, none, none, none, none, none]) = r) : d_product [x0, x1] = r := run_of rfl rfl h
def b_mirrored : List S :=
   [.ret (.tup [.ix (.var 0) (.con (.int 0)), .neg (.ix (.var 0) (.con (.int 1))), .neg (.ix (.var 0) (.con (.int 2))), .neg (.ix (.var 0) (.con (.int 3)))])]
noncomputable def d_mirrored : List D → M B := runF (phi []) 1 1 b_mirrored
theorem o_mirrored {x0 : D} {r : M B} (h : endD (exL (phi []) b_mirrored [some (.val x0)]) = r) : d_mirrored [x0] = r := run_of rfl rfl h
def b_size : List S :=
   [.ret (.bi .sum [.lc (.bop .mul (.var 1) (.var 1)) (.nm 1) .seq [.var 0] [] [1]])]
noncomputable def d_size : List D → M B := runF (phi []) 1 2 b_size
theorem o_size {x0 : D} {r : M B} (h : endD (exL (phi []) b_size [some (.val x0), none]) = r) : d_size [x0] = r := run_of rfl rfl h
def b_qsame : List S :=
   [.ite (.or (.not (.isi (.var 0) .tuple)) (.cmp .ne (.bi .len [.var 0]) (.con (.int 4)))) [.ret (.con (.bool false))] [],
    .for (.nm 2) .rng [.con (.int 4)] [.ite (.or (.not (.call 0 [.ix (.var 0) (.var 2)])) (.cmp .ne (.ix (.var 0) (.var 2)) (.ix (.var 1) (.var 2)))) [.ret (.con (.bool false))] []],
    .ret (.con (.bool true))]
noncomputable def d_qsame : List D → M B := runF (phi [d_whole]) 2 3 b_qsame
theorem o_qsame {x0 x1 : D} {r : M B} (h : endD (exL (phi [d_whole]) b_qsame [some (.val x0), some (.val x1), none]) = r) : d_qsame [x0, x1] = r := run_of rfl rfl h
def b_plain : List S :=
   [.asg (.nm 1) (.call 0 [.var 0]),
    .ite (.cmp .eq (.var 1) (.con (.int 0))) [.raise 0] [],
    .asg (.nm 2) (.ix (.lc (.var 3) (.nm 3) .seq [.var 0] [.cmp .ne (.var 3) (.con (.int 0))] [3]) (.con (.int 0))),
    .ite (.cmp .lt (.var 2) (.con (.int 0))) [.asg (.nm 1) (.neg (.var 1))] [],
    .ret (.tup [.bop .fdiv (.ix (.var 0) (.con (.int 0))) (.var 1), .bop .fdiv (.ix (.var 0) (.con (.int 1))) (.var 1), .bop .fdiv (.ix (.var 0) (.con (.int 2))) (.var 1), .bop .fdiv (.ix (.var 0) (.con (.int 3))) (.var 1)])]
noncomputable def d_plain : List D → M B := runF (phi [d_divisor]) 1 4 b_plain
theorem o_plain {x0 : D} {r : M B} (h : endD (exL (phi [d_divisor]) b_plain [some (.val x0), none, none, none]) = r) : d_plain [x0] = r := run_of rfl rfl h
def b_times : List S :=
   [.ret (.bop .add (.bop .add (.bop .mul (.ix (.var 0) (.con (.int 0))) (.ix (.var 1) (.con (.int 0)))) (.bop .mul (.ix (.var 0) (.con (.int 1))) (.ix (.var 1) (.con (.int 1))))) (.bop .mul (.ix (.var 0) (.con (.int 2))) (.ix (.var 1) (.con (.int 2)))))]
noncomputable def d_times : List D → M B := runF (phi []) 2 2 b_times
theorem o_times {x0 x1 : D} {r : M B} (h : endD (exL (phi []) b_times [some (.val x0), some (.val x1)]) = r) : d_times [x0, x1] = r := run_of rfl rfl h
def b_llower : List S :=
   [.asg (.nm 2) (.call 0 [.bop .add (.bop .add (.bop .add (.bi .list [.ix (.var 0) (.con (.int 0))]) (.bi .list [.ix (.var 0) (.con (.int 1))])) (.bi .list [.ix (.var 0) (.con (.int 2))])) (.lst [.var 1])]),
    .ret (.tup [.bi .tuple [.lc (.bi .tuple [.lc (.bop .fdiv (.var 4) (.var 2)) (.nm 4) .seq [.var 3] [] [4]]) (.nm 3) .seq [.var 0] [] [3]], .bop .fdiv (.var 1) (.var 2)])]
noncomputable def d_llower : List D → M B := runF (phi [d_ldivisor]) 2 5 b_llower
theorem o_llower {x0 x1 : D} {r : M B} (h : endD (exL (phi [d_ldivisor]) b_llower [some (.val x0), some (.val x1), none, none, none]) = r) : d_llower [x0, x1] = r := run_of rfl rfl h
def b_ltable : List S :=
   [.asg (.tp [.nm 4, .nm 5, .nm 6, .nm 7]) (.var 0),
    .asg (.nm 1) (.tup [.bop .sub (.bop .sub (.bop .add (.bop .mul (.var 4) (.var 4)) (.bop .mul (.var 5) (.var 5))) (.bop .mul (.var 6) (.var 6))) (.bop .mul (.var 7) (.var 7)), .bop .mul (.con (.int 2)) (.bop .sub (.bop .mul (.var 5) (.var 6)) (.bop .mul (.var 4) (.var 7))), .bop .mul (.con (.int 2)) (.bop .add (.bop .mul (.var 5) (.var 7)) (.bop .mul (.var 4) (.var 6)))]),
    .asg (.nm 2) (.tup [.bop .mul (.con (.int 2)) (.bop .add (.bop .mul (.var 5) (.var 6)) (.bop .mul (.var 4) (.var 7))), .bop .sub (.bop .add (.bop .sub (.bop .mul (.var 4) (.var 4)) (.bop .mul (.var 5) (.var 5))) (.bop .mul (.var 6) (.var 6))) (.bop .mul (.var 7) (.var 7)), .bop .mul (.con (.int 2)) (.bop .sub (.bop .mul (.var 6) (.var 7)) (.bop .mul (.var 4) (.var 5)))]),
    .asg (.nm 3) (.tup [.bop .mul (.con (.int 2)) (.bop .sub (.bop .mul (.var 5) (.var 7)) (.bop .mul (.var 4) (.var 6))), .bop .mul (.con (.int 2)) (.bop .add (.bop .mul (.var 6) (.var 7)) (.bop .mul (.var 4) (.var 5))), .bop .add (.bop .sub (.bop .sub (.bop .mul (.var 4) (.var 4)) (.bop .mul (.var 5) (.var 5))) (.bop .mul (.var 6) (.var 6))) (.bop .mul (.var 7) (.var 7))]),
    .ret (.call 0 [.tup [.var 1, .var 2, .var 3], .bop .add (.bop .add (.bop .add (.bop .mul (.var 4) (.var 4)) (.bop .mul (.var 5) (.var 5))) (.bop .mul (.var 6) (.var 6))) (.bop .mul (.var 7) (.var 7))])]
noncomputable def d_ltable : List D → M B := runF (phi [d_llower]) 1 8 b_ltable
theorem o_ltable {x0 : D} {r : M B} (h : endD (exL (phi [d_llower]) b_ltable [some (.val x0), none, none, none, none, none, none, none]) = r) : d_ltable [x0] = r := run_of rfl rfl h
def b_lowest : List S :=
   [.asg (.nm 2) (.call 0 [.bop .add (.lst [.var 1]) (.lc (.var 3) (.nm 3) .seq [.bop .add (.bop .add (.ix (.var 0) (.con (.int 0))) (.ix (.var 0) (.con (.int 1)))) (.ix (.var 0) (.con (.int 2)))] [] [3])]),
    .ret (.tup [.bi .tuple [.lc (.bi .tuple [.lc (.bop .fdiv (.var 3) (.var 2)) (.nm 3) .seq [.var 4] [] [3]]) (.nm 4) .seq [.var 0] [] [4]], .bop .fdiv (.var 1) (.var 2)])]
noncomputable def d_lowest : List D → M B := runF (phi [d_divisor]) 2 5 b_lowest
theorem o_lowest {x0 x1 : D} {r : M B} (h : endD (exL (phi [d_divisor]) b_lowest [some (.val x0), some (.val x1), none, none, none]) = r) : d_lowest [x0, x1] = r := run_of rfl rfl h
def b_turn_of : List S :=
   [.ite (.cmp .eq (.call 0 [.var 0]) (.con (.int 0))) [.raise 0] [],
    .asg (.tp [.nm 4, .nm 5, .nm 6, .nm 7]) (.var 0),
    .asg (.nm 1) (.tup [.bop .sub (.bop .sub (.bop .add (.bop .mul (.var 4) (.var 4)) (.bop .mul (.var 5) (.var 5))) (.bop .mul (.var 6) (.var 6))) (.bop .mul (.var 7) (.var 7)), .bop .sub (.bop .mul (.bop .mul (.con (.int 2)) (.var 5)) (.var 6)) (.bop .mul (.bop .mul (.con (.int 2)) (.var 4)) (.var 7)), .bop .add (.bop .mul (.bop .mul (.con (.int 2)) (.var 5)) (.var 7)) (.bop .mul (.bop .mul (.con (.int 2)) (.var 4)) (.var 6))]),
    .asg (.nm 2) (.tup [.bop .add (.bop .mul (.bop .mul (.con (.int 2)) (.var 5)) (.var 6)) (.bop .mul (.bop .mul (.con (.int 2)) (.var 4)) (.var 7)), .bop .sub (.bop .add (.bop .sub (.bop .mul (.var 4) (.var 4)) (.bop .mul (.var 5) (.var 5))) (.bop .mul (.var 6) (.var 6))) (.bop .mul (.var 7) (.var 7)), .bop .sub (.bop .mul (.bop .mul (.con (.int 2)) (.var 6)) (.var 7)) (.bop .mul (.bop .mul (.con (.int 2)) (.var 4)) (.var 5))]),
    .asg (.nm 3) (.tup [.bop .sub (.bop .mul (.bop .mul (.con (.int 2)) (.var 5)) (.var 7)) (.bop .mul (.bop .mul (.con (.int 2)) (.var 4)) (.var 6)), .bop .add (.bop .mul (.bop .mul (.con (.int 2)) (.var 6)) (.var 7)) (.bop .mul (.bop .mul (.con (.int 2)) (.var 4)) (.var 5)), .bop .add (.bop .sub (.bop .sub (.bop .mul (.var 4) (.var 4)) (.bop .mul (.var 5) (.var 5))) (.bop .mul (.var 6) (.var 6))) (.bop .mul (.var 7) (.var 7))]),
    .ret (.call 1 [.tup [.var 1, .var 2, .var 3], .call 0 [.var 0]])]
noncomputable def d_turn_of : List D → M B := runF (phi [d_size, d_lowest]) 1 8 b_turn_of
theorem o_turn_of {x0 : D} {r : M B} (h : endD (exL (phi [d_size, d_lowest]) b_turn_of [some (.val x0), none, none, none, none, none, none, none]) = r) : d_turn_of [x0] = r := run_of rfl rfl h
end Lb
namespace Lb
open PySem Tg
local macro_rules | `(tactic| walk_at "bd") => `(tactic| first | assumption | exact near_b3 | exact near_b6 | exact near_b9 | exact near_b999 | exact near_b1000 | exact near_b12 | exact near_b15 | exact near_b20 | exact near_b30 | exact near_b60 | exact bd_lit rfl (by decide) | (refine' bd_add ?h1 ?h2; (case h1 => walk_at "bd"); (case h2 => walk_at "bd")) | (refine' bd_sub ?h1 ?h2; (case h1 => walk_at "bd"); (case h2 => walk_at "bd")) | (refine' bd_mul ?h1 ?h2; (case h1 => walk_at "bd"); (case h2 => walk_at "bd")) | (refine' bd_neg ?_; walk_at "bd"))
local macro_rules | `(tactic| walk_at "ok") => `(tactic| first | assumption | decide | (refine line_lt ?_; (first | omega | (simp only [List.length_map, List.length_set, List.length_append, List.length_cons, List.length_nil, List.length_reverse]; omega))) | (refine' mulOk_of ?h1 ?h2 ?h3; (case h1 => walk_at "bd"); (case h2 => walk_at "bd"); (case h3 => first | decide | omega | (simp only [Nat.max_def]; first | decide | omega))) | (refine divOk_of ?_ ?_ <;> first | assumption | decide +kernel | omega) | omega | (simp -implicitDefEqProofs only [allI_nil, allI_cons, allI_map, allI_app, Bool.and_self, Bool.and_true]; done))
theorem nat_ne {b : Nat} : (!((b + 1 : Nat) : Int) == 0) = true := by simp; omega
theorem fmod_nat {a b : Nat} : ((a : Nat) : Int).fmod ((b + 1 : Nat) : Int) = ((a % (b + 1) : Nat) : Int) := by
  rw [fmod_pos (by omega), Int.natCast_emod]
theorem abs_nat {i : Int} : (if i < 0 then -i else i) = (i.natAbs : Int) := by split <;> omega
def Dr (d : D) (g : Nat) (ρ : En) : Prop := ∃ z y, ρ = [some (.val d), some (.val (.int g)), z, y]
local macro_rules | `(tactic| walk_at "ev") => `(tactic| simp -implicitDefEqProofs (disch := walk_at "ok") only [exL_nil, exL_cons, next_nx, next_rt, next_ct, next_ex, S_asg, S_set, S_put, S_app, S_ite, S_for, S_whl, S_ret, S_cont, S_pass, S_frz, S_raise, put_own, putK_i, app_own, frz_nil, frz_cons, frzK_own, frzK_val, E_var, E_con, E_glob, E_tup, E_lst, E_rep, E_bop, E_neg, E_not, E_and, E_or, E_cmp, E_ix, E_sl, E_bi, E_isi, E_call, E_lc, lcO_ok, L_nil, L_cons, Bs_nil, Bs_cons, bor_var, bor_con, bor_glob, bor_tup, bor_lst, bor_rep, bor_bop, bor_neg, bor_not, bor_and, bor_or, bor_cmp, bor_ix, bor_sl, bor_sl3, bor_inr, bor_call0, bor_bi, bor_isi, bor_call, bor_lc, lookE_val, lookB_val, lookB_own, valM_ok, valM_stuck, valM_ex, d_val, d_own, negD_i, notD_b, andD_t, andD_f, orD_t, orD_f, andD_b, orD_b, add_ii, sub_ii, mul_ii', fdiv_ii', mod_ii', pow10_9, pow10_10, pow10_12, pow10_15, pow10_20, pow10_30, pow10_60, pow10_120, add_ll, add_tt, lt_ii, le_ii, gt_ii, ge_ii, eq_ii, ne_ii, isN_d, notN_d, isB_bb, notB_bb, ix_l, ix_t, ixO_some, at_0, at_1, at_2, at_3, iteD_t, iteD_f, iteD_b, ret_var, retV_b, end_rt, end_nx, end_ex, ret_con, ret_glob, ret_tup, ret_lst, ret_rep, ret_bop, ret_neg, ret_not, ret_and, ret_or, ret_cmp, ret_ix, ret_sl, ret_sl3, ret_inr, ret_call0, safe_ok, inr_t, inr_f, S_tri, tri_ok, tri_ex, su_nil, su_cons, suD_is, suD_con, suD_two, suD_lst, suD_cat, suCat_l, E_sl3, E_inr, E_call0, mul_ti, List.map_cons, List.map_nil, ret_bi, ret_isi, ret_call, ret_lc, isi_ii, isi_ib, isi_it, isi_il, isi_in, isi_bi, isi_bb, isi_tt, isi_tl, isi_ti, isi_tn, isi_ll, isi_lt, bi_abs, bi_len_l, bi_len_t, bi_int_i, bi_int_b, bi_list_l, bi_list_t, bi_tuple_l, bi_tuple_t, bi_sum, bi_all, sumO_some, allO_some, bi_min2, bi_max2, phi_0, phi_1, phi_2, phi_s, bindT_nm, bindT_tp, bindT_tl, bindTs_nil, bindTs_cons, it_seq, it_zip_t, it_zip_l, it_rev, itL, itT, turn_0, turn_t, turn_f, wipe_nil, wipe_cons, forF_eq, whlC_eq, whlF_eq, lcF_eq, bind_ok, bind_stuck, bind_ex, List.set_cons_zero, List.set_cons_succ, List.getElem?_cons_zero, List.getElem?_cons_succ, if_true, if_false, Bool.false_eq_true, part_0, part_1, sl_l, sl_t, nonD, Bool.not_true, Bool.not_false, Bool.and_true, Bool.true_and, Bool.and_false, Bool.false_and, Bool.or_true, Bool.true_or, Bool.or_false, Bool.false_or, Int.cast_ofNat_Int, beq_self_eq_true, decide_true, decide_false, Int.neg_neg, Int.zero_add, Int.add_zero, reduceIte, Nat.reduceAdd, Int.reduceBEq, Int.reduceToNat, Int.reduceMul, Int.reduceAdd, Int.reduceSub, Int.reduceLT, Int.reduceLE, Int.reduceFMod, Int.reduceFDiv, Int.reduceNeg])
theorem run_div0 {d : D} {xs : List Int} (h : seqD d = .ok (xs.map PyData.int)) : d_divisor [d] = .ok (.val (.int (gcdL xs))) := by
  refine o_divisor ?_
  unfold b_divisor
  walk_at "ev"
  rw [h]
  walk_at "ev"
  obtain ⟨ρ1, h1, h2⟩ := for_fold (f := forF (phi []) (.nm 2) [.asg (.nm 3) (.bi .abs [.var 2]), .whl (.cmp .ne (.var 3) (.con (.int 0))) [.asg (.tp [.nm 1, .nm 3]) (.tup [.var 3, .bop .mod (.var 1) (.var 3)])]]) (g := PyData.int) (step := fun g x => Nat.gcd g x.natAbs) (xs := xs) (s := 0) (ρ := [some (.val d), some (.val (.int 0)), none, none]) (Dr d)
    (fun x _ g ρ ⟨z, y, e⟩ => by
      subst e
      refine ⟨[some (.val d), some (.val (.int (Nat.gcd g x.natAbs))), some (.val (.int x)), some (.val (.int 0))], .inl ?_, _, _, rfl⟩
      walk_at "ev"
      rw [abs_nat, euclid (fun a b => [some (.val d), some (.val (.int (a : Nat))), some (.val (.int x)), some (.val (.int (b : Nat)))]) (fun a => by walk_at "ev") (fun a b => by walk_at "ev"; rw [nat_ne]) (fun a b => by (have : ((b + 1 : Nat) : Int) ≠ 0 := (by omega)); walk_at "ev"; rw [fmod_nat])]
      walk_at "ev") ⟨_, _, rfl⟩
  rw [h1]
  obtain ⟨z, y, rfl⟩ := h2
  walk_at "ev"
  rfl
theorem run_divl {ds : List D} (h : allI ds = true) : d_divisor [.list ds] = .ok (.val (.int (gcdL (valsD ds)))) := run_div0 (by rw [itL, ← vals_eq h])
theorem run_divt {ds : List D} (h : allI ds = true) : d_divisor [.tuple ds] = .ok (.val (.int (gcdL (valsD ds)))) := run_div0 (by rw [itT, ← vals_eq h])
theorem nat_gt {b : Nat} : decide ((0 : Int) < ((b + 1 : Nat) : Int)) = true := decide_eq_true (by omega)
theorem run_ldiv0 {d : D} {xs : List Int} (h : seqD d = .ok (xs.map PyData.int)) : d_ldivisor [d] = .ok (.val (.int (gcdL xs))) := by
  refine o_ldivisor ?_
  unfold b_ldivisor
  walk_at "ev"
  rw [h]
  walk_at "ev"
  obtain ⟨ρ1, h1, h2⟩ := for_fold (f := forF (phi []) (.nm 2) [.asg (.nm 3) (.bi .abs [.var 2]), .whl (.cmp .gt (.var 3) (.con (.int 0))) [.asg (.tp [.nm 1, .nm 3]) (.tup [.var 3, .bop .mod (.var 1) (.var 3)])]]) (g := PyData.int) (step := fun g x => Nat.gcd g x.natAbs) (xs := xs) (s := 0) (ρ := [some (.val d), some (.val (.int 0)), none, none]) (Dr d)
    (fun x _ g ρ ⟨z, y, e⟩ => by
      subst e
      refine ⟨[some (.val d), some (.val (.int (Nat.gcd g x.natAbs))), some (.val (.int x)), some (.val (.int 0))], .inl ?_, _, _, rfl⟩
      walk_at "ev"
      rw [abs_nat, euclid (fun a b => [some (.val d), some (.val (.int (a : Nat))), some (.val (.int x)), some (.val (.int (b : Nat)))]) (fun a => by walk_at "ev") (fun a b => by walk_at "ev"; rw [nat_gt]) (fun a b => by (have : ((b + 1 : Nat) : Int) ≠ 0 := (by omega)); walk_at "ev"; rw [fmod_nat])]
      walk_at "ev") ⟨_, _, rfl⟩
  rw [h1]
  obtain ⟨z, y, rfl⟩ := h2
  walk_at "ev"
  rfl
theorem run_ldivl {ds : List D} (h : allI ds = true) : d_ldivisor [.list ds] = .ok (.val (.int (gcdL (valsD ds)))) := run_ldiv0 (by rw [itL, ← vals_eq h])
theorem run_ldivt {ds : List D} (h : allI ds = true) : d_ldivisor [.tuple ds] = .ok (.val (.int (gcdL (valsD ds)))) := run_ldiv0 (by rw [itT, ← vals_eq h])
theorem run_euclid {i j : Int} : d_euclid [.int i, .int j] = .ok (.val (.int (Nat.gcd i.natAbs j.natAbs : Nat))) := by
  refine o_euclid ?_
  unfold b_euclid
  walk_at "ev"
  rw [abs_nat, abs_nat, euclid (fun a b => [some (.val (.int (a : Nat))), some (.val (.int (b : Nat)))]) (fun a => by walk_at "ev") (fun a b => by walk_at "ev"; rw [nat_gt]) (fun a b => by (have : ((b + 1 : Nat) : Int) ≠ 0 := (by omega)); walk_at "ev"; rw [fmod_nat])]
  walk_at "ev"
theorem cell_at {ns : List Int} {k : Int} (h : 0 ≤ k) (h2 : k < ns.length) : ixO (L2.atI (ns.map PyData.int) k) = .ok (.val (.int (cellI ns k))) := by
  have e : k = (k.toNat : Int) := by omega
  have hl : k.toNat < ns.length := by omega
  unfold cellI
  rw [List.getD_eq_getElem?_getD, List.getElem?_eq_getElem hl]
  have q := L2.atI_nat (xs := ns.map PyData.int) (j := k.toNat) (by rw [List.getElem?_map, List.getElem?_eq_getElem hl]; rfl)
  rw [← e] at q
  rw [q]
  rfl
theorem run_cell {ns : List Int} {k : Int} (h : 0 ≤ k) : d_cell [.list (ns.map PyData.int), .int k] = .ok (.val (.int (cellI ns k))) := by
  refine o_cell ?_
  unfold b_cell
  walk_at "ev"
  rw [List.length_map]
  by_cases hk : k < ns.length
  · rw [decide_eq_true hk]
    walk_at "ev"
    rw [cell_at h hk]
    walk_at "ev"
  · rw [decide_eq_false hk]
    walk_at "ev"
    unfold cellI
    rw [List.getD_eq_getElem?_getD, List.getElem?_eq_none (by omega)]
    rfl
theorem run_near {c m : Int} (h : 0 ≤ m) (h1 : m ≤ 10 ^ 120) : d_near [.int c, .int m] = .ok (.val (.int (near c m))) := by
  have hb : m.natAbs < 2 ^ 500 := by omega
  have h2 : 2 * m + 1 ≠ 0 := by omega
  refine o_near ?_
  unfold b_near
  walk_at "ev"
  rw [fmod_pos (by omega)]
  unfold near
  by_cases hc : m < c % (2 * m + 1)
  · rw [if_pos hc, decide_eq_true hc]
    walk_at "ev"
  · rw [if_neg hc, decide_eq_false hc]
    walk_at "ev"
theorem run_whole {n : Int} : d_whole [.int n] = .ok (.val (.bool true)) := by
  refine o_whole ?_
  unfold b_whole
  walk_at "ev"
theorem rng_3 : rngD 0 1 3 = [.int 0, .int 1, .int 2] := rfl
theorem rng_4 : rngD 0 1 4 = [.int 0, .int 1, .int 2, .int 3] := rfl
structure Q where
  a : Int
  b : Int
  c : Int
  d : Int
instance : DecidableEq Q := fun p q => decidable_of_iff (p.a = q.a ∧ p.b = q.b ∧ p.c = q.c ∧ p.d = q.d) (by cases p; cases q; simp)
def q4 (q : Q) : D := .tuple [.int q.a, .int q.b, .int q.c, .int q.d]
def Q.ok (q : Q) (n : Nat) : Prop := q.a.natAbs < 2 ^ n ∧ q.b.natAbs < 2 ^ n ∧ q.c.natAbs < 2 ^ n ∧ q.d.natAbs < 2 ^ n
def Q.mul (p q : Q) : Q := ⟨p.a * q.a - p.b * q.b - p.c * q.c - p.d * q.d, p.a * q.b + p.b * q.a + p.c * q.d - p.d * q.c, p.a * q.c - p.b * q.d + p.c * q.a + p.d * q.b, p.a * q.d + p.b * q.c - p.c * q.b + p.d * q.a⟩
def Q.conj (p : Q) : Q := ⟨p.a, -p.b, -p.c, -p.d⟩
def Q.size (p : Q) : Int := p.a * p.a + p.b * p.b + p.c * p.c + p.d * p.d
def Q.add (p q : Q) : Q := ⟨p.a + q.a, p.b + q.b, p.c + q.c, p.d + q.d⟩
theorem Q.ok_mono {q : Q} {n m : Nat} (h : q.ok n) (hl : n ≤ m) : q.ok m := ⟨bd_mono h.1 hl, bd_mono h.2.1 hl, bd_mono h.2.2.1 hl, bd_mono h.2.2.2 hl⟩
theorem Q.ok_conj {q : Q} {n : Nat} (h : q.ok n) : q.conj.ok n := ⟨h.1, bd_neg h.2.1, bd_neg h.2.2.1, bd_neg h.2.2.2⟩
theorem Q.ok_mul {p q : Q} {n m : Nat} (h : p.ok n) (k : q.ok m) : (p.mul q).ok (n + m + 3) := by
  obtain ⟨h1, h2, h3, h4⟩ := h
  obtain ⟨k1, k2, k3, k4⟩ := k
  refine ⟨bd_mono (bd_sub (bd_sub (bd_sub (bd_mul h1 k1) (bd_mul h2 k2)) (bd_mul h3 k3)) (bd_mul h4 k4)) ?_, bd_mono (bd_sub (bd_add (bd_add (bd_mul h1 k2) (bd_mul h2 k1)) (bd_mul h3 k4)) (bd_mul h4 k3)) ?_, bd_mono (bd_add (bd_add (bd_sub (bd_mul h1 k3) (bd_mul h2 k4)) (bd_mul h3 k1)) (bd_mul h4 k2)) ?_, bd_mono (bd_add (bd_sub (bd_add (bd_mul h1 k4) (bd_mul h2 k3)) (bd_mul h3 k2)) (bd_mul h4 k1)) ?_⟩ <;> omega
theorem Q.bd_size {p : Q} {n : Nat} (h : p.ok n) : p.size.natAbs < 2 ^ (n + n + 3) := by
  obtain ⟨h1, h2, h3, h4⟩ := h
  exact bd_mono (bd_add (bd_add (bd_add (bd_mul h1 h1) (bd_mul h2 h2)) (bd_mul h3 h3)) (bd_mul h4 h4)) (by omega)
theorem Q.size_mul (p q : Q) : (p.mul q).size = p.size * q.size := by
  simp only [Q.size, Q.mul]; grind
theorem Q.mul_assoc (p q r : Q) : (p.mul q).mul r = p.mul (q.mul r) := by
  simp only [Q.mul, Q.mk.injEq]; grind
theorem Q.mul_add (p q r : Q) : p.mul (q.add r) = (p.mul q).add (p.mul r) := by
  simp only [Q.mul, Q.add, Q.mk.injEq]; grind
local macro_rules | `(tactic| walk_at "ev") => `(tactic| simp -implicitDefEqProofs (disch := walk_at "ok") only [exL_nil, exL_cons, next_nx, next_rt, next_ct, next_ex, S_asg, S_set, S_put, S_app, S_ite, S_for, S_whl, S_ret, S_cont, S_pass, S_frz, S_raise, put_own, putK_i, app_own, frz_nil, frz_cons, frzK_own, frzK_val, E_var, E_con, E_glob, E_tup, E_lst, E_rep, E_bop, E_neg, E_not, E_and, E_or, E_cmp, E_ix, E_sl, E_bi, E_isi, E_call, E_lc, lcO_ok, L_nil, L_cons, Bs_nil, Bs_cons, bor_var, bor_con, bor_glob, bor_tup, bor_lst, bor_rep, bor_bop, bor_neg, bor_not, bor_and, bor_or, bor_cmp, bor_ix, bor_sl, bor_sl3, bor_inr, bor_call0, bor_bi, bor_isi, bor_call, bor_lc, lookE_val, lookB_val, lookB_own, valM_ok, valM_stuck, valM_ex, d_val, d_own, negD_i, notD_b, andD_t, andD_f, orD_t, orD_f, andD_b, orD_b, add_ii, sub_ii, mul_ii', fdiv_ii', mod_ii', pow10_9, pow10_10, pow10_12, pow10_15, pow10_20, pow10_30, pow10_60, pow10_120, add_ll, add_tt, lt_ii, le_ii, gt_ii, ge_ii, eq_ii, ne_ii, isN_d, notN_d, isB_bb, notB_bb, ix_l, ix_t, ixO_some, at_0, at_1, at_2, at_3, iteD_t, iteD_f, iteD_b, ret_var, retV_b, end_rt, end_nx, end_ex, ret_con, ret_glob, ret_tup, ret_lst, ret_rep, ret_bop, ret_neg, ret_not, ret_and, ret_or, ret_cmp, ret_ix, ret_sl, ret_sl3, ret_inr, ret_call0, safe_ok, inr_t, inr_f, S_tri, tri_ok, tri_ex, su_nil, su_cons, suD_is, suD_con, suD_two, suD_lst, suD_cat, suCat_l, E_sl3, E_inr, E_call0, mul_ti, List.map_cons, List.map_nil, ret_bi, ret_isi, ret_call, ret_lc, isi_ii, isi_ib, isi_it, isi_il, isi_in, isi_bi, isi_bb, isi_tt, isi_tl, isi_ti, isi_tn, isi_ll, isi_lt, bi_abs, bi_len_l, bi_len_t, bi_int_i, bi_int_b, bi_list_l, bi_list_t, bi_tuple_l, bi_tuple_t, bi_sum, bi_all, sumO_some, allO_some, bi_min2, bi_max2, phi_0, phi_1, phi_2, phi_s, bindT_nm, bindT_tp, bindT_tl, bindTs_nil, bindTs_cons, it_seq, it_zip_t, it_zip_l, it_rev, itL, itT, turn_0, turn_t, turn_f, wipe_nil, wipe_cons, forF_eq, whlC_eq, whlF_eq, lcF_eq, bind_ok, bind_stuck, bind_ex, List.set_cons_zero, List.set_cons_succ, List.getElem?_cons_zero, List.getElem?_cons_succ, if_true, if_false, Bool.false_eq_true, part_0, part_1, sl_l, sl_t, nonD, Bool.not_true, Bool.not_false, Bool.and_true, Bool.true_and, Bool.and_false, Bool.false_and, Bool.or_true, Bool.true_or, Bool.or_false, Bool.false_or, Int.cast_ofNat_Int, beq_self_eq_true, decide_true, decide_false, Int.neg_neg, Int.zero_add, Int.add_zero, line_lt, small_i, it_rng1, it_rng2, eq_self, for_nil, for_cons, forK_nx, forK_ct, forK_rt, lc_nil, lc_cons, lcK_some, lcK_none, rng_3, rng_4, run_whole, run_cell, run_near, vals_nil, vals_cons, vals_map, allI_nil, allI_cons, allI_map, allI_app, vals_app, run_divl, run_divt, run_ldivl, run_ldivt, run_euclid, ints_all, List.length_cons, List.length_nil, List.length_map, List.length_append, List.cons_append, List.nil_append, List.length_set, List.length_reverse, reduceIte, Nat.reduceAdd, Int.reduceBEq, Int.reduceToNat, Int.reduceMul, Int.reduceAdd, Int.reduceSub, Int.reduceLT, Int.reduceLE, Int.reduceFMod, Int.reduceFDiv, Int.reduceNeg])
theorem run_product {p q : Q} {n m : Nat} (h : p.ok n) (k : q.ok m) (hl : n + m ≤ 900000) : d_product [q4 p, q4 q] = .ok (.val (q4 (p.mul q))) := by
  obtain ⟨h1, h2, h3, h4⟩ := h
  obtain ⟨k1, k2, k3, k4⟩ := k
  refine o_product ?_
  unfold b_product q4
  walk_at "ev"
  rfl
theorem run_mirrored {p : Q} : d_mirrored [q4 p] = .ok (.val (q4 p.conj)) := by
  refine o_mirrored ?_
  unfold b_mirrored q4
  walk_at "ev"
  rfl
theorem run_size {p : Q} {n : Nat} (h : p.ok n) (hl : n ≤ 400000) : d_size [q4 p] = .ok (.val (.int p.size)) := by
  obtain ⟨h1, h2, h3, h4⟩ := h
  refine o_size ?_
  unfold b_size q4
  walk_at "ev"
  simp only [List.sum_cons, List.sum_nil, Int.add_zero, Q.size, Int.add_assoc]
local macro_rules | `(tactic| walk_at "ev") => `(tactic| simp -implicitDefEqProofs (disch := walk_at "ok") only [exL_nil, exL_cons, next_nx, next_rt, next_ct, next_ex, S_asg, S_set, S_put, S_app, S_ite, S_for, S_whl, S_ret, S_cont, S_pass, S_frz, S_raise, put_own, putK_i, app_own, frz_nil, frz_cons, frzK_own, frzK_val, E_var, E_con, E_glob, E_tup, E_lst, E_rep, E_bop, E_neg, E_not, E_and, E_or, E_cmp, E_ix, E_sl, E_bi, E_isi, E_call, E_lc, lcO_ok, L_nil, L_cons, Bs_nil, Bs_cons, bor_var, bor_con, bor_glob, bor_tup, bor_lst, bor_rep, bor_bop, bor_neg, bor_not, bor_and, bor_or, bor_cmp, bor_ix, bor_sl, bor_sl3, bor_inr, bor_call0, bor_bi, bor_isi, bor_call, bor_lc, lookE_val, lookB_val, lookB_own, valM_ok, valM_stuck, valM_ex, d_val, d_own, negD_i, notD_b, andD_t, andD_f, orD_t, orD_f, andD_b, orD_b, add_ii, sub_ii, mul_ii', fdiv_ii', mod_ii', pow10_9, pow10_10, pow10_12, pow10_15, pow10_20, pow10_30, pow10_60, pow10_120, add_ll, add_tt, lt_ii, le_ii, gt_ii, ge_ii, eq_ii, ne_ii, isN_d, notN_d, isB_bb, notB_bb, ix_l, ix_t, ixO_some, at_0, at_1, at_2, at_3, iteD_t, iteD_f, iteD_b, ret_var, retV_b, end_rt, end_nx, end_ex, ret_con, ret_glob, ret_tup, ret_lst, ret_rep, ret_bop, ret_neg, ret_not, ret_and, ret_or, ret_cmp, ret_ix, ret_sl, ret_sl3, ret_inr, ret_call0, safe_ok, inr_t, inr_f, S_tri, tri_ok, tri_ex, su_nil, su_cons, suD_is, suD_con, suD_two, suD_lst, suD_cat, suCat_l, E_sl3, E_inr, E_call0, mul_ti, List.map_cons, List.map_nil, ret_bi, ret_isi, ret_call, ret_lc, isi_ii, isi_ib, isi_it, isi_il, isi_in, isi_bi, isi_bb, isi_tt, isi_tl, isi_ti, isi_tn, isi_ll, isi_lt, bi_abs, bi_len_l, bi_len_t, bi_int_i, bi_int_b, bi_list_l, bi_list_t, bi_tuple_l, bi_tuple_t, bi_sum, bi_all, sumO_some, allO_some, bi_min2, bi_max2, phi_0, phi_1, phi_2, phi_s, bindT_nm, bindT_tp, bindT_tl, bindTs_nil, bindTs_cons, it_seq, it_zip_t, it_zip_l, it_rev, itL, itT, turn_0, turn_t, turn_f, wipe_nil, wipe_cons, forF_eq, whlC_eq, whlF_eq, lcF_eq, bind_ok, bind_stuck, bind_ex, List.set_cons_zero, List.set_cons_succ, List.getElem?_cons_zero, List.getElem?_cons_succ, if_true, if_false, Bool.false_eq_true, part_0, part_1, sl_l, sl_t, nonD, Bool.not_true, Bool.not_false, Bool.and_true, Bool.true_and, Bool.and_false, Bool.false_and, Bool.or_true, Bool.true_or, Bool.or_false, Bool.false_or, Int.cast_ofNat_Int, beq_self_eq_true, decide_true, decide_false, Int.neg_neg, Int.zero_add, Int.add_zero, line_lt, small_i, it_rng1, it_rng2, eq_self, for_nil, for_cons, forK_nx, forK_ct, forK_rt, lc_nil, lc_cons, lcK_some, lcK_none, rng_3, rng_4, run_whole, run_cell, run_near, vals_nil, vals_cons, vals_map, allI_nil, allI_cons, allI_map, allI_app, vals_app, run_divl, run_divt, run_ldivl, run_ldivt, run_euclid, ints_all, List.length_cons, List.length_nil, List.length_map, List.length_append, List.cons_append, List.nil_append, List.length_set, List.length_reverse, go_nx, go_ct, ret_ok, run_mirrored, app_ok, reduceIte, Nat.reduceAdd, Int.reduceBEq, Int.reduceToNat, Int.reduceMul, Int.reduceAdd, Int.reduceSub, Int.reduceLT, Int.reduceLE, Int.reduceFMod, Int.reduceFDiv, Int.reduceNeg])
theorem run_qsame {q : Q} : d_qsame [q4 q, q4 q] = .ok (.val (.bool true)) := by
  refine o_qsame ?_
  unfold b_qsame q4
  walk_at "ev"
theorem ix_q0 {q : Q} : ixD (q4 q) (.int 0) = .ok (.val (.int q.a)) := by unfold q4; rw [ix_t, at_0]; rfl
theorem ix_q1 {q : Q} : ixD (q4 q) (.int 1) = .ok (.val (.int q.b)) := by unfold q4; rw [ix_t, at_1]; rfl
theorem ix_q2 {q : Q} : ixD (q4 q) (.int 2) = .ok (.val (.int q.c)) := by unfold q4; rw [ix_t, at_2]; rfl
theorem ix_q3 {q : Q} : ixD (q4 q) (.int 3) = .ok (.val (.int q.d)) := by unfold q4; rw [ix_t, at_3]; rfl
def Q.one : Q := ⟨1, 0, 0, 0⟩
theorem Q.one_mul (q : Q) : Q.one.mul q = q := by
  cases q; simp only [Q.mul, Q.one, Q.mk.injEq]; grind
theorem Q.mul_one (q : Q) : q.mul Q.one = q := by
  cases q; simp only [Q.mul, Q.one, Q.mk.injEq]; grind
def Q.prod (qs : List Q) : Q := qs.foldl Q.mul Q.one
theorem Q.foldl_mul (a : Q) (qs : List Q) : qs.foldl Q.mul a = a.mul (Q.prod qs) := by
  unfold Q.prod
  induction qs generalizing a with
  | nil => exact (Q.mul_one a).symm
  | cons q qs ih => rw [List.foldl_cons, List.foldl_cons, ih (a.mul q), ih (Q.one.mul q), Q.one_mul, Q.mul_assoc]
theorem Q.prod_nil : Q.prod [] = Q.one := rfl
theorem Q.prod_cons (q : Q) (qs : List Q) : Q.prod (q :: qs) = q.mul (Q.prod qs) := by
  show List.foldl Q.mul (Q.one.mul q) qs = _
  rw [Q.foldl_mul, Q.one_mul]
theorem rng_0 : rngD 0 1 0 = [] := rfl
theorem rng_1 : rngD 0 1 1 = [.int 0] := rfl
theorem rng_2 : rngD 0 1 2 = [.int 0, .int 1] := rfl
def Q.vs (q : Q) : List Int := [q.a, q.b, q.c, q.d]
theorem Q.q4_vs (q : Q) : q4 q = .tuple (q.vs.map PyData.int) := rfl
theorem Q.vs_len (q : Q) : q.vs.length = 4 := rfl
def Q.g (q : Q) : Nat := gcdL q.vs
def Q.lead (q : Q) : Int := if q.a = 0 then if q.b = 0 then if q.c = 0 then q.d else q.c else q.b else q.a
def Q.zero : Q := ⟨0, 0, 0, 0⟩
def Q.sc (s : Int) (q : Q) : Q := ⟨s * q.a, s * q.b, s * q.c, s * q.d⟩
theorem Q.lead_ne {q : Q} (h : q ≠ Q.zero) : q.lead ≠ 0 := by
  unfold Q.lead
  intro e
  apply h
  cases q with
  | mk a b c d =>
    simp only at e
    split at e <;> (try split at e) <;> (try split at e) <;> simp_all [Q.zero]
theorem Q.lead_mem (q : Q) : q.lead ∈ q.vs := by
  unfold Q.lead Q.vs
  split <;> (try split) <;> (try split) <;> simp
theorem Q.lead_sc {s : Int} (hs : s ≠ 0) (q : Q) : (Q.sc s q).lead = s * q.lead := by
  unfold Q.lead Q.sc
  simp only [Int.mul_eq_zero, hs, false_or]
  split <;> (try split) <;> (try split) <;> rfl
theorem Q.g_pos {q : Q} (h : q ≠ Q.zero) : 0 < q.g := gcdL_pos (Q.lead_mem q) (Q.lead_ne h)
theorem Q.g_sc (s : Int) (q : Q) : (Q.sc s q).g = s.natAbs * q.g := gcdL_scale (xs := q.vs) (m := s)
theorem Q.sc_inj {s : Int} (hs : s ≠ 0) {p q : Q} (h : Q.sc s p = Q.sc s q) : p = q := by
  cases p; cases q
  simp only [Q.sc, Q.mk.injEq] at h
  obtain ⟨h1, h2, h3, h4⟩ := h
  rw [Int.mul_eq_mul_left_iff hs] at h1 h2 h3 h4
  rw [h1, h2, h3, h4]
theorem Q.sc_sc (s t : Int) (q : Q) : Q.sc s (Q.sc t q) = Q.sc (s * t) q := by simp only [Q.sc, Int.mul_assoc]
structure Pl (q p : Q) (s : Int) : Prop where
  e : q = Q.sc s p
  s : s ≠ 0
  g : p.g = 1
  l : 0 < p.lead
theorem Pl.uniq {q p p' : Q} {s s' : Int} (h : Pl q p s) (h' : Pl q p' s') : p = p' ∧ s = s' := by
  have e1 := Q.g_sc s p
  have e2 := Q.g_sc s' p'
  rw [← h.e, h.g] at e1
  rw [← h'.e, h'.g] at e2
  have l1 := Q.lead_sc h.s p
  have l2 := Q.lead_sc h'.s p'
  rw [← h.e] at l1
  rw [← h'.e] at l2
  have es : s = s' := by
    have en : s.natAbs = s'.natAbs := by omega
    rcases Int.natAbs_eq_natAbs_iff.mp en with e | e
    · exact e
    · exfalso
      have p1 := h.l
      have p2 := h'.l
      rw [l1] at l2
      rcases Int.lt_or_gt_of_ne h.s with hs | hs
      · have := Int.mul_neg_of_neg_of_pos hs p1
        have := Int.mul_pos (show 0 < s' by omega) p2
        omega
      · have := Int.mul_pos hs p1
        have := Int.mul_neg_of_neg_of_pos (show s' < 0 by omega) p2
        omega
  subst es
  exact ⟨Q.sc_inj h.s (h.e.symm.trans h'.e), rfl⟩
theorem Pl.mk' {q : Q} (h : q ≠ Q.zero) : ∃ p, Pl q p (if q.lead < 0 then -(q.g : Int) else q.g) := by
  have hg := Q.g_pos h
  have hd : ∀ x ∈ q.vs, (q.g : Int) ∣ x := fun x hx => gcdL_dvd hx
  have hs : (if q.lead < 0 then -(q.g : Int) else q.g) ≠ 0 := by split <;> omega
  have hd2 : ∀ x ∈ q.vs, ∃ k, x = (if q.lead < 0 then -(q.g : Int) else q.g) * k := fun x hx => by
    obtain ⟨k, hk⟩ := hd x hx
    split
    · exact ⟨-k, by rw [hk, Int.neg_mul_neg]⟩
    · exact ⟨k, hk⟩
  have hn : (if q.lead < 0 then -(q.g : Int) else q.g).natAbs = q.g := by split <;> omega
  have hl : 0 < (if q.lead < 0 then -(q.g : Int) else q.g) * q.lead := by
    have := Q.lead_ne h
    split
    · exact Int.mul_pos_of_neg_of_neg (by omega) (by omega)
    · exact Int.mul_pos (by omega) (by omega)
  generalize (if q.lead < 0 then -(q.g : Int) else q.g) = s at *
  obtain ⟨a, ha⟩ := hd2 q.a (by simp [Q.vs])
  obtain ⟨b, hb⟩ := hd2 q.b (by simp [Q.vs])
  obtain ⟨c, hc⟩ := hd2 q.c (by simp [Q.vs])
  obtain ⟨d, hdd⟩ := hd2 q.d (by simp [Q.vs])
  have e : q = Q.sc s ⟨a, b, c, d⟩ := by
    cases q; simp only [Q.sc, Q.mk.injEq]; exact ⟨ha, hb, hc, hdd⟩
  refine ⟨⟨a, b, c, d⟩, e, hs, ?_, ?_⟩
  · have := Q.g_sc s ⟨a, b, c, d⟩
    rw [← e, hn] at this
    rcases Nat.eq_zero_or_pos (Q.g ⟨a, b, c, d⟩) with z | z
    · rw [z] at this; omega
    · exact (Nat.mul_left_cancel hg (by rw [Nat.mul_one]; exact this)).symm
  · have := Q.lead_sc hs ⟨a, b, c, d⟩
    rw [← e] at this
    rw [this, ← Int.mul_assoc] at hl
    have sq : 0 < s * s := by
      rcases Int.lt_or_gt_of_ne hs with hs | hs
      · exact Int.mul_pos_of_neg_of_neg hs hs
      · exact Int.mul_pos hs hs
    rcases Int.lt_trichotomy 0 (Q.lead ⟨a, b, c, d⟩) with h1 | h1 | h1
    · exact h1
    · rw [← h1, Int.mul_zero] at hl; omega
    · have := Int.mul_neg_of_pos_of_neg sq h1; omega
theorem Pl.ok {q p : Q} {s : Int} {n : Nat} (h : Pl q p s) (k : q.ok n) : p.ok n := by
  have key : ∀ x : Int, (s * x).natAbs < 2 ^ n → x.natAbs < 2 ^ n := fun x hx => by
    rw [Int.natAbs_mul] at hx
    have h1 : 0 < s.natAbs := by have := h.s; omega
    have := Nat.le_mul_of_pos_left x.natAbs h1
    omega
  obtain ⟨k1, k2, k3, k4⟩ := k
  rw [h.e] at k1 k2 k3 k4
  exact ⟨key _ k1, key _ k2, key _ k3, key _ k4⟩
theorem Q.g_bd {q : Q} {n : Nat} (h : q ≠ Q.zero) (k : q.ok n) : (q.g : Int).natAbs < 2 ^ n := by
  refine gcdL_bd (Q.lead_mem q) (Q.lead_ne h) ?_
  have := Q.lead_mem q
  simp only [Q.vs, List.mem_cons, List.not_mem_nil, or_false] at this
  obtain ⟨k1, k2, k3, k4⟩ := k
  rcases this with e | e | e | e <;> rw [e] <;> assumption
theorem fdiv_sc {s x : Int} (h : s ≠ 0) : (s * x).fdiv s = x := by rw [Int.mul_comm]; exact Int.mul_fdiv_cancel x h
theorem filt_lead {q : Q} (h : q ≠ Q.zero) : ∃ r, q.vs.filter (fun x => !(x == 0)) = q.lead :: r := by
  have hl := Q.lead_ne h
  unfold Q.lead at hl ⊢
  unfold Q.vs
  simp only [List.filter_cons, List.filter_nil]
  by_cases ha : q.a = 0
  · simp only [ha, if_true] at hl ⊢
    by_cases hb : q.b = 0
    · simp only [hb, if_true] at hl ⊢
      by_cases hc : q.c = 0
      · simp only [hc, if_true] at hl ⊢
        exact ⟨[], by simp [hl]⟩
      · simp only [hc, if_false] at hl ⊢
        exact ⟨_, by simp [hc]; rfl⟩
    · simp only [hb, if_false] at hl ⊢
      exact ⟨_, by simp [hb]; rfl⟩
  · simp only [ha, if_false] at hl ⊢
    exact ⟨_, by simp [ha]; rfl⟩
local macro_rules | `(tactic| walk_at "ev") => `(tactic| simp -implicitDefEqProofs (disch := walk_at "ok") only [exL_nil, exL_cons, next_nx, next_rt, next_ct, next_ex, S_asg, S_set, S_put, S_app, S_ite, S_for, S_whl, S_ret, S_cont, S_pass, S_frz, S_raise, put_own, putK_i, app_own, frz_nil, frz_cons, frzK_own, frzK_val, E_var, E_con, E_glob, E_tup, E_lst, E_rep, E_bop, E_neg, E_not, E_and, E_or, E_cmp, E_ix, E_sl, E_bi, E_isi, E_call, E_lc, lcO_ok, L_nil, L_cons, Bs_nil, Bs_cons, bor_var, bor_con, bor_glob, bor_tup, bor_lst, bor_rep, bor_bop, bor_neg, bor_not, bor_and, bor_or, bor_cmp, bor_ix, bor_sl, bor_sl3, bor_inr, bor_call0, bor_bi, bor_isi, bor_call, bor_lc, lookE_val, lookB_val, lookB_own, valM_ok, valM_stuck, valM_ex, d_val, d_own, negD_i, notD_b, andD_t, andD_f, orD_t, orD_f, andD_b, orD_b, add_ii, sub_ii, mul_ii', fdiv_ii', mod_ii', pow10_9, pow10_10, pow10_12, pow10_15, pow10_20, pow10_30, pow10_60, pow10_120, add_ll, add_tt, lt_ii, le_ii, gt_ii, ge_ii, eq_ii, ne_ii, isN_d, notN_d, isB_bb, notB_bb, ix_l, ix_t, ixO_some, at_0, at_1, at_2, at_3, iteD_t, iteD_f, iteD_b, ret_var, retV_b, end_rt, end_nx, end_ex, ret_con, ret_glob, ret_tup, ret_lst, ret_rep, ret_bop, ret_neg, ret_not, ret_and, ret_or, ret_cmp, ret_ix, ret_sl, ret_sl3, ret_inr, ret_call0, safe_ok, inr_t, inr_f, S_tri, tri_ok, tri_ex, su_nil, su_cons, suD_is, suD_con, suD_two, suD_lst, suD_cat, suCat_l, E_sl3, E_inr, E_call0, mul_ti, List.map_cons, List.map_nil, ret_bi, ret_isi, ret_call, ret_lc, isi_ii, isi_ib, isi_it, isi_il, isi_in, isi_bi, isi_bb, isi_tt, isi_tl, isi_ti, isi_tn, isi_ll, isi_lt, bi_abs, bi_len_l, bi_len_t, bi_int_i, bi_int_b, bi_list_l, bi_list_t, bi_tuple_l, bi_tuple_t, bi_sum, bi_all, sumO_some, allO_some, bi_min2, bi_max2, phi_0, phi_1, phi_2, phi_s, bindT_nm, bindT_tp, bindT_tl, bindTs_nil, bindTs_cons, it_seq, it_zip_t, it_zip_l, it_rev, itL, itT, turn_0, turn_t, turn_f, wipe_nil, wipe_cons, forF_eq, whlC_eq, whlF_eq, lcF_eq, bind_ok, bind_stuck, bind_ex, List.set_cons_zero, List.set_cons_succ, List.getElem?_cons_zero, List.getElem?_cons_succ, if_true, if_false, Bool.false_eq_true, part_0, part_1, sl_l, sl_t, nonD, Bool.not_true, Bool.not_false, Bool.and_true, Bool.true_and, Bool.and_false, Bool.false_and, Bool.or_true, Bool.true_or, Bool.or_false, Bool.false_or, Int.cast_ofNat_Int, beq_self_eq_true, decide_true, decide_false, Int.neg_neg, Int.zero_add, Int.add_zero, line_lt, small_i, it_rng1, it_rng2, eq_self, for_nil, for_cons, forK_nx, forK_ct, forK_rt, lc_nil, lc_cons, lcK_some, lcK_none, rng_3, rng_4, run_whole, run_cell, run_near, vals_nil, vals_cons, vals_map, allI_nil, allI_cons, allI_map, allI_app, vals_app, run_divl, run_divt, run_ldivl, run_ldivt, run_euclid, ints_all, List.length_cons, List.length_nil, List.length_map, List.length_append, List.cons_append, List.nil_append, List.length_set, List.length_reverse, go_nx, go_ct, ret_ok, run_mirrored, app_ok, ix_q0, ix_q1, ix_q2, ix_q3, run_qsame, rng_0, rng_1, rng_2, turn_b, Q.vs_len, reduceIte, Nat.reduceAdd, Int.reduceBEq, Int.reduceToNat, Int.reduceMul, Int.reduceAdd, Int.reduceSub, Int.reduceLT, Int.reduceLE, Int.reduceFMod, Int.reduceFDiv, Int.reduceNeg])
theorem run_plain {q : Q} {n : Nat} (h : q ≠ Q.zero) (k : q.ok n) (hn : n ≤ 8999) : ∃ p s, d_plain [q4 q] = .ok (.val (q4 p)) ∧ Pl q p s := by
  obtain ⟨p, hp⟩ := Pl.mk' h
  refine ⟨p, _, ?_, hp⟩
  have hg := Q.g_pos h
  have hb := Nat.lt_of_lt_of_le (Q.g_bd h k) (Nat.pow_le_pow_right (by decide) (show n ≤ 9000 by omega))
  have f1 : d_divisor [q4 q] = .ok (.val (.int (q.g : Int))) := by
    rw [Q.q4_vs]
    exact run_div0 itT
  have f2 : seqD (q4 q) = .ok (q.vs.map PyData.int) := itT
  obtain ⟨r, hr⟩ := filt_lead h
  have f3 : ((q.g : Int) == 0) = false := by simp; omega
  refine o_plain ?_
  unfold b_plain
  repeat (first | walk_at "ev" | rw [f1] | rw [f3])
  rw [f2]
  walk_at "ev"
  rw [lc_filt (p := fun x => !(x == 0)) (fun x hx => by walk_at "ev"), hr]
  rw [List.map_cons]
  walk_at "ev"
  have e := hp.e
  have hs := hp.s
  have hsb : (if q.lead < 0 then -(q.g : Int) else q.g).natAbs < 2 ^ 9000 := by split <;> omega
  by_cases hc : q.lead < 0
  · rw [if_pos hc] at e hs hsb
    rw [decide_eq_true hc]
    walk_at "ev"
    have ea : q.a = _ * p.a := congrArg Q.a e
    have eb : q.b = _ * p.b := congrArg Q.b e
    have ec : q.c = _ * p.c := congrArg Q.c e
    have ed : q.d = _ * p.d := congrArg Q.d e
    rw [ea, eb, ec, ed, fdiv_sc hs, fdiv_sc hs, fdiv_sc hs, fdiv_sc hs]
    rfl
  · rw [if_neg hc] at e hs hsb
    rw [decide_eq_false hc]
    walk_at "ev"
    have ea : q.a = _ * p.a := congrArg Q.a e
    have eb : q.b = _ * p.b := congrArg Q.b e
    have ec : q.c = _ * p.c := congrArg Q.c e
    have ed : q.d = _ * p.d := congrArg Q.d e
    rw [ea, eb, ec, ed, fdiv_sc hs, fdiv_sc hs, fdiv_sc hs, fdiv_sc hs]
    rfl
theorem isi_q {q : Q} : isiD .tuple (q4 q) = .ok (.val (.bool true)) := rfl
theorem len_q {q : Q} : biD .len [q4 q] = .ok (.val (.int 4)) := rfl
theorem seq_q {q : Q} : seqD (q4 q) = .ok (q.vs.map PyData.int) := rfl
theorem eqOk_q (p q : Q) : eqOk (q4 p) (q4 q) = true := by
  unfold eqOk SeqAt.shaped q4
  simp [PyData.canLay0, PyData.canLayAll0, PyData.depth, PyData.depthAll]
theorem eqv_q (p q : Q) : PyData.eqv (q4 p) (q4 q) = decide (p = q) := by
  cases p; cases q
  rw [Bool.eq_iff_iff]
  simp [q4, PyData.eqv, PyData.eqvAll]
theorem ne_q {p q : Q} : cmpD .ne (q4 p) (q4 q) = .ok (.val (.bool (!decide (p = q)))) := by rw [ne_dd, eqOk_q, if_pos rfl, eqv_q]
theorem eq_q {p q : Q} : cmpD .eq (q4 p) (q4 q) = .ok (.val (.bool (decide (p = q)))) := by rw [eq_dd, eqOk_q, if_pos rfl, eqv_q]
theorem ne_q0 {p : Q} : cmpD .ne (q4 p) (.tuple [.int 0, .int 0, .int 0, .int 0]) = .ok (.val (.bool (!decide (p = Q.zero)))) := ne_q (q := Q.zero)
theorem lay_ints : ∀ xs : List Int, PyData.canLayAll0 (xs.map PyData.int) = true
  | [] => rfl
  | x :: xs => by rw [List.map_cons, PyData.canLayAll0, lay_ints xs]; rfl
theorem deep_ints : ∀ xs : List Int, PyData.depthAll (xs.map PyData.int) ≤ 1
  | [] => by simp [PyData.depthAll]
  | x :: xs => by have := deep_ints xs; simp [PyData.depthAll, PyData.depth] at this ⊢; omega
theorem shaped_l (xs : List Int) : SeqAt.shaped (.list (xs.map PyData.int)) = true := by
  unfold SeqAt.shaped
  have := deep_ints xs
  simp [PyData.canLay0, lay_ints, PyData.depth]; omega
theorem eqv_ints : ∀ xs ys : List Int, PyData.eqvAll (xs.map PyData.int) (ys.map PyData.int) = decide (xs = ys)
  | [], [] => by simp [PyData.eqvAll]
  | [], _ :: _ => by simp [PyData.eqvAll]
  | _ :: _, [] => by simp [PyData.eqvAll]
  | x :: xs, y :: ys => by
    rw [List.map_cons, List.map_cons, PyData.eqvAll, eqv_ints xs ys, eqv_int, Bool.eq_iff_iff]
    simp
theorem ne_li {xs ys : List Int} : cmpD .ne (.list (xs.map PyData.int)) (.list (ys.map PyData.int)) = .ok (.val (.bool (!decide (xs = ys)))) := by
  rw [ne_dd, if_pos (by unfold eqOk; rw [shaped_l, shaped_l]; rfl), PyData.eqv, eqv_ints]
theorem eq_li {xs ys : List Int} : cmpD .eq (.list (xs.map PyData.int)) (.list (ys.map PyData.int)) = .ok (.val (.bool (decide (xs = ys)))) := by
  rw [eq_dd, if_pos (by unfold eqOk; rw [shaped_l, shaped_l]; rfl), PyData.eqv, eqv_ints]
structure Mk (m n : Int) (B : Nat) (o p a b c d : Int) : Prop where
  l1 : a * m + b * n = o
  l2 : c * m + d * n = p
  g : Int.gcd o p = Int.gcd m n
  o0 : o ≠ 0
  sg : 0 ≤ o * p
  ba : a.natAbs ≤ B
  bb : b.natAbs ≤ B
  bc : c.natAbs * o.natAbs + a.natAbs * p.natAbs ≤ B
  bd : d.natAbs * o.natAbs + b.natAbs * p.natAbs ≤ B
  o1 : o.natAbs ≤ B
theorem Mk.cd {m n o p a b c d : Int} {B : Nat} (h : Mk m n B o p a b c d) : c.natAbs ≤ B ∧ d.natAbs ≤ B := by
  have h1 := h.o0
  have h2 : 0 < o.natAbs := by omega
  have h3 := Nat.le_mul_of_pos_right c.natAbs h2
  have h4 := Nat.le_mul_of_pos_right d.natAbs h2
  have := h.bc
  have := h.bd
  omega
theorem same_div {o p : Int} (h : 0 ≤ o * p) (hp : p ≠ 0) : (o.fdiv p).natAbs = o.natAbs / p.natAbs ∧ (o - o.fdiv p * p).natAbs = o.natAbs % p.natAbs ∧ 0 ≤ p * (o - o.fdiv p * p) := by
  have e : o - o.fdiv p * p = o.fmod p := by have := Int.fmod_add_fdiv_mul o p; omega
  rw [e]
  rcases Int.lt_or_gt_of_ne hp with hn | hn
  · have ho : o ≤ 0 := by
      rcases Int.lt_or_le 0 o with h1 | h1
      · have := Int.mul_neg_of_pos_of_neg h1 hn; omega
      · exact h1
    obtain ⟨x, rfl⟩ : ∃ x : Nat, o = -(x : Int) := ⟨o.natAbs, by omega⟩
    obtain ⟨y, rfl⟩ : ∃ y : Nat, p = -(y : Int) := ⟨p.natAbs, by omega⟩
    rw [Int.neg_fdiv_neg, Int.neg_fmod_neg, fdiv_pos (by omega), fmod_pos (by omega)]
    have hy : 0 < (y : Int) := by omega
    have q1 := Int.emod_nonneg (x : Int) (show (y : Int) ≠ 0 by omega)
    refine ⟨?_, ?_, ?_⟩
    · rw [← Int.natCast_ediv, Int.natAbs_natCast, Int.natAbs_neg, Int.natAbs_neg, Int.natAbs_natCast, Int.natAbs_natCast]
    · rw [← Int.natCast_emod, Int.natAbs_neg, Int.natAbs_natCast, Int.natAbs_neg, Int.natAbs_neg, Int.natAbs_natCast, Int.natAbs_natCast]
    · rw [Int.neg_mul_neg]
      exact Int.mul_nonneg (by omega) q1
  · have ho : 0 ≤ o := by
      rcases Int.lt_or_le o 0 with h1 | h1
      · have := Int.mul_neg_of_neg_of_pos h1 hn; omega
      · exact h1
    obtain ⟨x, rfl⟩ : ∃ x : Nat, o = (x : Int) := ⟨o.natAbs, by omega⟩
    obtain ⟨y, rfl⟩ : ∃ y : Nat, p = (y : Int) := ⟨p.natAbs, by omega⟩
    rw [fdiv_pos hn, fmod_pos hn]
    have q1 := Int.emod_nonneg (x : Int) (show (y : Int) ≠ 0 by omega)
    refine ⟨?_, ?_, Int.mul_nonneg (by omega) q1⟩
    · rw [← Int.natCast_ediv, Int.natAbs_natCast, Int.natAbs_natCast, Int.natAbs_natCast]
    · rw [← Int.natCast_emod, Int.natAbs_natCast, Int.natAbs_natCast, Int.natAbs_natCast]
theorem mk_le {x y k o p B : Nat} (h : y * o + x * p ≤ B) (e : o = k * p + r) (hz : z ≤ x + k * y) : z * p + y * r ≤ B := by
  have h1 : z * p ≤ (x + k * y) * p := Nat.mul_le_mul_right p hz
  have h2 : (x + k * y) * p + y * r = y * o + x * p := by rw [e]; grind
  omega
theorem Mk.step {m n o p a b c d : Int} {B : Nat} (h : Mk m n B o p a b c d) (hp : p ≠ 0) : Mk m n B p (o - o.fdiv p * p) c d (a - o.fdiv p * c) (b - o.fdiv p * d) ∧ (o - o.fdiv p * p).natAbs < p.natAbs := by
  obtain ⟨q1, q2, q3⟩ := same_div h.sg hp
  have hpp : 0 < p.natAbs := by omega
  have e : o.natAbs = (o.fdiv p).natAbs * p.natAbs + (o - o.fdiv p * p).natAbs := by
    rw [q1, q2, Nat.mul_comm]; exact (Nat.div_add_mod _ _).symm
  have hlt : (o - o.fdiv p * p).natAbs < p.natAbs := by rw [q2]; exact Nat.mod_lt _ hpp
  have le_o : p.natAbs ≤ B := by
    have h1 := h.bc
    have h2 := h.bd
    have := h.l2
    by_cases hk : a = 0
    · have hb : b ≠ 0 := fun z => by
        have := h.l1
        rw [hk, z] at this
        have := h.o0
        omega
      have : 0 < b.natAbs := by omega
      have := Nat.le_mul_of_pos_left p.natAbs this
      omega
    · have : 0 < a.natAbs := by omega
      have := Nat.le_mul_of_pos_left p.natAbs this
      omega
  refine ⟨⟨h.l2, ?_, ?_, hp, q3, h.cd.1, h.cd.2, mk_le h.bc e ?_, mk_le h.bd e ?_, le_o⟩, hlt⟩
  · rw [Int.sub_mul, Int.sub_mul, ← h.l1, ← h.l2]; grind
  · rw [Int.gcd_comm, ← h.g, show o - o.fdiv p * p = o + -(o.fdiv p) * p by rw [Int.neg_mul, Int.sub_eq_add_neg], Int.gcd_add_mul_right_left]
  · have := Int.natAbs_sub_le a (o.fdiv p * c)
    rw [Int.natAbs_mul] at this
    exact this
  · have := Int.natAbs_sub_le b (o.fdiv p * d)
    rw [Int.natAbs_mul] at this
    exact this
def slotN (ρ : En) (i : Nat) : Nat := match ρ[i]? with
  | some (some (.val (.int p))) => p.natAbs
  | _ => 0
def Pr (p : Int) : Prop := 2 ≤ p ∧ ∀ d : Int, 2 ≤ d → d < p → ¬ d ∣ p
def prodI (xs : List Int) : Int := xs.foldl (· * ·) 1
structure PI (N n : Int) (f : List Int) (p : Int) : Prop where
  n1 : 1 ≤ n
  p2 : 2 ≤ p
  e : prodI f * n = N
  pr : ∀ q ∈ f, Pr q ∧ q ≤ p ∧ q ≤ N
  s : f.Pairwise (· ≤ ·)
  nd : ∀ d : Int, 2 ≤ d → d < p → ¬ d ∣ n
  l : 2 ^ f.length * n ≤ N
  nN : n ≤ N
theorem PI.len {N n p : Int} {f : List Int} {k : Nat} (h : PI N n f p) (hN : N < 2 ^ k) : f.length < k := by
  have h1 : (2 : Int) ^ f.length * 1 ≤ 2 ^ f.length * n := Int.mul_le_mul_of_nonneg_left h.n1 (Int.le_of_lt (Int.pow_pos (by decide)))
  have h2 : (2 : Int) ^ f.length < 2 ^ k := by have := h.l; omega
  rcases Nat.lt_or_ge f.length k with h3 | h3
  · exact h3
  · have : (2 : Int) ^ k ≤ 2 ^ f.length := by
      have := Nat.pow_le_pow_right (show 0 < 2 by decide) h3
      exact_mod_cast this
    omega
structure V3 where
  x : Int
  y : Int
  z : Int
structure Tn where
  p : V3
  q : V3
  r : V3
  n : Int
def t3 (v : V3) : D := .tuple [.int v.x, .int v.y, .int v.z]
def m3 (T : Tn) : D := .tuple [t3 T.p, t3 T.q, t3 T.r]
def tn (T : Tn) : D := .tuple [m3 T, .int T.n]
def V3.vs (v : V3) : List Int := [v.x, v.y, v.z]
def V3.ok (v : V3) (n : Nat) : Prop := v.x.natAbs < 2 ^ n ∧ v.y.natAbs < 2 ^ n ∧ v.z.natAbs < 2 ^ n
def V3.dot (v w : V3) : Int := v.x * w.x + v.y * w.y + v.z * w.z
def V3.div (v : V3) (g : Int) : V3 := ⟨v.x / g, v.y / g, v.z / g⟩
def V3.sc (g : Int) (v : V3) : V3 := ⟨g * v.x, g * v.y, g * v.z⟩
def Tn.ok (T : Tn) (n : Nat) : Prop := T.p.ok n ∧ T.q.ok n ∧ T.r.ok n ∧ T.n.natAbs < 2 ^ n
def Tn.all (T : Tn) : List Int := [T.p.x, T.p.y, T.p.z, T.q.x, T.q.y, T.q.z, T.r.x, T.r.y, T.r.z, T.n]
def Tn.g (T : Tn) : Int := (gcdL T.all : Nat)
def Tn.low (T : Tn) : Tn := ⟨T.p.div T.g, T.q.div T.g, T.r.div T.g, T.n / T.g⟩
def Tn.sc (s : Int) (T : Tn) : Tn := ⟨V3.sc s T.p, V3.sc s T.q, V3.sc s T.r, s * T.n⟩
theorem ix_v0 {v : V3} : ixD (t3 v) (.int 0) = .ok (.val (.int v.x)) := by unfold t3; rw [ix_t, at_0]; rfl
theorem ix_v1 {v : V3} : ixD (t3 v) (.int 1) = .ok (.val (.int v.y)) := by unfold t3; rw [ix_t, at_1]; rfl
theorem ix_v2 {v : V3} : ixD (t3 v) (.int 2) = .ok (.val (.int v.z)) := by unfold t3; rw [ix_t, at_2]; rfl
theorem ix_m0 {T : Tn} : ixD (m3 T) (.int 0) = .ok (.val (t3 T.p)) := by unfold m3; rw [ix_t, at_0]; rfl
theorem ix_m1 {T : Tn} : ixD (m3 T) (.int 1) = .ok (.val (t3 T.q)) := by unfold m3; rw [ix_t, at_1]; rfl
theorem ix_m2 {T : Tn} : ixD (m3 T) (.int 2) = .ok (.val (t3 T.r)) := by unfold m3; rw [ix_t, at_2]; rfl
theorem ix_n0 {T : Tn} : ixD (tn T) (.int 0) = .ok (.val (m3 T)) := by unfold tn; rw [ix_t, at_0]; rfl
theorem ix_n1 {T : Tn} : ixD (tn T) (.int 1) = .ok (.val (.int T.n)) := by unfold tn; rw [ix_t, at_1]; rfl
theorem seq_v {v : V3} : seqD (t3 v) = .ok [.int v.x, .int v.y, .int v.z] := rfl
theorem seq_m {T : Tn} : seqD (m3 T) = .ok [t3 T.p, t3 T.q, t3 T.r] := rfl
theorem isi_v {v : V3} : isiD .tuple (t3 v) = .ok (.val (.bool true)) := rfl
theorem isi_m {T : Tn} : isiD .tuple (m3 T) = .ok (.val (.bool true)) := rfl
theorem isi_n {T : Tn} : isiD .tuple (tn T) = .ok (.val (.bool true)) := rfl
theorem len_v {v : V3} : biD .len [t3 v] = .ok (.val (.int 3)) := rfl
theorem len_m {T : Tn} : biD .len [m3 T] = .ok (.val (.int 3)) := rfl
theorem len_n {T : Tn} : biD .len [tn T] = .ok (.val (.int 2)) := rfl
theorem list_v {v : V3} : biD .list [t3 v] = .ok (.own [.int v.x, .int v.y, .int v.z]) := rfl
theorem bind_v {v : V3} {ts : List Tg} {ρ : En} : bindT (.tp ts) (t3 v) ρ = bindTs ts [.int v.x, .int v.y, .int v.z] ρ := rfl
theorem bind_m {T : Tn} {ts : List Tg} {ρ : En} : bindT (.tp ts) (m3 T) ρ = bindTs ts [t3 T.p, t3 T.q, t3 T.r] ρ := rfl
theorem bind_n {T : Tn} {ts : List Tg} {ρ : En} : bindT (.tp ts) (tn T) ρ = bindTs ts [m3 T, .int T.n] ρ := rfl
theorem bind_q {q : Q} {ts : List Tg} {ρ : En} : bindT (.tp ts) (q4 q) ρ = bindTs ts [.int q.a, .int q.b, .int q.c, .int q.d] ρ := rfl
theorem add_vv {v w : V3} : bopD .add (t3 v) (t3 w) = .ok (.val (.tuple [.int v.x, .int v.y, .int v.z, .int w.x, .int w.y, .int w.z])) := rfl
theorem add_tv {a b c d e f : Int} {w : V3} : bopD .add (.tuple [.int a, .int b, .int c, .int d, .int e, .int f]) (t3 w) = .ok (.val (.tuple [.int a, .int b, .int c, .int d, .int e, .int f, .int w.x, .int w.y, .int w.z])) := rfl
theorem div_all {xs : List Int} {x0 : Int} (h0 : x0 ∈ xs) (hx : x0 ≠ 0) : gcdL (xs.map (· / ((gcdL xs : Nat) : Int))) = 1 ∧ ∀ x ∈ xs, x = ((gcdL xs : Nat) : Int) * (x / ((gcdL xs : Nat) : Int)) := by
  have hg : 0 < gcdL xs := gcdL_pos h0 hx
  have e : ∀ x ∈ xs, x = ((gcdL xs : Nat) : Int) * (x / ((gcdL xs : Nat) : Int)) := fun x hx => (Int.mul_ediv_cancel' (gcdL_dvd hx)).symm
  refine ⟨?_, e⟩
  have e2 : (xs.map (· / ((gcdL xs : Nat) : Int))).map (((gcdL xs : Nat) : Int) * ·) = xs := by
    rw [List.map_map]
    conv => rhs; rw [← List.map_id xs]
    exact List.map_congr_left fun x hx => (e x hx).symm
  have := gcdL_scale (xs := xs.map (· / ((gcdL xs : Nat) : Int))) (m := ((gcdL xs : Nat) : Int))
  rw [e2, Int.natAbs_natCast] at this
  exact (Nat.mul_left_cancel hg (by rw [Nat.mul_one]; exact this)).symm
theorem gcdL_same {xs ys : List Int} (h : ∀ x, x ∈ xs ↔ x ∈ ys) : gcdL xs = gcdL ys :=
  gcdL_eq (fun x hx => gcdL_dvd ((h x).mp hx)) (fun e he => dvd_gcdL fun x hx => he x ((h x).mpr hx))
structure Lw (T L : Tn) (s : Int) : Prop where
  e : T = Tn.sc s L
  s : 0 < s
  g : gcdL L.all = 1
theorem Tn.g_pos {T : Tn} (h : 0 < T.n) : 0 < T.g := by
  have := gcdL_pos (xs := T.all) (x := T.n) (by simp [Tn.all]) (by omega)
  unfold Tn.g; omega
theorem Tn.g_bd {T : Tn} {k : Nat} (h : 0 < T.n) (b : T.n.natAbs < 2 ^ k) : T.g.natAbs < 2 ^ k := gcdL_bd (xs := T.all) (x := T.n) (by simp [Tn.all]) (by omega) b
theorem Tn.lw {T : Tn} (h : 0 < T.n) : Lw T T.low T.g := by
  obtain ⟨h1, h2⟩ := div_all (xs := T.all) (x0 := T.n) (by simp [Tn.all]) (by omega)
  refine ⟨?_, Tn.g_pos h, h1⟩
  obtain ⟨⟨px, py, pz⟩, ⟨qx, qy, qz⟩, ⟨rx, ry, rz⟩, n⟩ := T
  simp only [Tn.sc, Tn.low, V3.sc, V3.div, Tn.mk.injEq, V3.mk.injEq, Tn.g]
  simp only [Tn.all, List.mem_cons, List.not_mem_nil, or_false, forall_eq_or_imp, forall_eq] at h2 ⊢
  exact ⟨⟨h2.1, h2.2.1, h2.2.2.1⟩, ⟨h2.2.2.2.1, h2.2.2.2.2.1, h2.2.2.2.2.2.1⟩, ⟨h2.2.2.2.2.2.2.1, h2.2.2.2.2.2.2.2.1, h2.2.2.2.2.2.2.2.2.1⟩, h2.2.2.2.2.2.2.2.2.2⟩
local macro_rules | `(tactic| walk_at "ev") => `(tactic| simp -implicitDefEqProofs (disch := walk_at "ok") only [exL_nil, exL_cons, next_nx, next_rt, next_ct, next_ex, S_asg, S_set, S_put, S_app, S_ite, S_for, S_whl, S_ret, S_cont, S_pass, S_frz, S_raise, put_own, putK_i, app_own, frz_nil, frz_cons, frzK_own, frzK_val, E_var, E_con, E_glob, E_tup, E_lst, E_rep, E_bop, E_neg, E_not, E_and, E_or, E_cmp, E_ix, E_sl, E_bi, E_isi, E_call, E_lc, lcO_ok, L_nil, L_cons, Bs_nil, Bs_cons, bor_var, bor_con, bor_glob, bor_tup, bor_lst, bor_rep, bor_bop, bor_neg, bor_not, bor_and, bor_or, bor_cmp, bor_ix, bor_sl, bor_sl3, bor_inr, bor_call0, bor_bi, bor_isi, bor_call, bor_lc, lookE_val, lookB_val, lookB_own, valM_ok, valM_stuck, valM_ex, d_val, d_own, negD_i, notD_b, andD_t, andD_f, orD_t, orD_f, andD_b, orD_b, add_ii, sub_ii, mul_ii', fdiv_ii', mod_ii', pow10_9, pow10_10, pow10_12, pow10_15, pow10_20, pow10_30, pow10_60, pow10_120, add_ll, add_tt, lt_ii, le_ii, gt_ii, ge_ii, eq_ii, ne_ii, isN_d, notN_d, isB_bb, notB_bb, ix_l, ix_t, ixO_some, at_0, at_1, at_2, at_3, iteD_t, iteD_f, iteD_b, ret_var, retV_b, end_rt, end_nx, end_ex, ret_con, ret_glob, ret_tup, ret_lst, ret_rep, ret_bop, ret_neg, ret_not, ret_and, ret_or, ret_cmp, ret_ix, ret_sl, ret_sl3, ret_inr, ret_call0, safe_ok, inr_t, inr_f, S_tri, tri_ok, tri_ex, su_nil, su_cons, suD_is, suD_con, suD_two, suD_lst, suD_cat, suCat_l, E_sl3, E_inr, E_call0, mul_ti, List.map_cons, List.map_nil, ret_bi, ret_isi, ret_call, ret_lc, isi_ii, isi_ib, isi_it, isi_il, isi_in, isi_bi, isi_bb, isi_tt, isi_tl, isi_ti, isi_tn, isi_ll, isi_lt, bi_abs, bi_len_l, bi_len_t, bi_int_i, bi_int_b, bi_list_l, bi_list_t, bi_tuple_l, bi_tuple_t, bi_sum, bi_all, sumO_some, allO_some, bi_min2, bi_max2, phi_0, phi_1, phi_2, phi_s, bindT_nm, bindT_tp, bindT_tl, bindTs_nil, bindTs_cons, it_seq, it_zip_t, it_zip_l, it_rev, itL, itT, turn_0, turn_t, turn_f, wipe_nil, wipe_cons, forF_eq, whlC_eq, whlF_eq, lcF_eq, bind_ok, bind_stuck, bind_ex, List.set_cons_zero, List.set_cons_succ, List.getElem?_cons_zero, List.getElem?_cons_succ, if_true, if_false, Bool.false_eq_true, part_0, part_1, sl_l, sl_t, nonD, Bool.not_true, Bool.not_false, Bool.and_true, Bool.true_and, Bool.and_false, Bool.false_and, Bool.or_true, Bool.true_or, Bool.or_false, Bool.false_or, Int.cast_ofNat_Int, beq_self_eq_true, decide_true, decide_false, Int.neg_neg, Int.zero_add, Int.add_zero, line_lt, small_i, it_rng1, it_rng2, eq_self, for_nil, for_cons, forK_nx, forK_ct, forK_rt, lc_nil, lc_cons, lcK_some, lcK_none, rng_3, rng_4, run_whole, run_cell, run_near, vals_nil, vals_cons, vals_map, allI_nil, allI_cons, allI_map, allI_app, vals_app, run_divl, run_divt, run_ldivl, run_ldivt, run_euclid, ints_all, List.length_cons, List.length_nil, List.length_map, List.length_append, List.cons_append, List.nil_append, List.length_set, List.length_reverse, go_nx, go_ct, ret_ok, run_mirrored, app_ok, ix_q0, ix_q1, ix_q2, ix_q3, run_qsame, rng_0, rng_1, rng_2, turn_b, Q.vs_len, isi_q, len_q, seq_q, ne_q, eq_q, ne_q0, ne_li, eq_li, ix_v0, ix_v1, ix_v2, ix_m0, ix_m1, ix_m2, ix_n0, ix_n1, seq_v, seq_m, isi_v, isi_m, isi_n, len_v, len_m, len_n, list_v, bind_v, bind_m, bind_n, bind_q, add_vv, add_tv, reduceIte, Nat.reduceAdd, Int.reduceBEq, Int.reduceToNat, Int.reduceMul, Int.reduceAdd, Int.reduceSub, Int.reduceLT, Int.reduceLE, Int.reduceFMod, Int.reduceFDiv, Int.reduceNeg])
theorem run_llower {T : Tn} {k : Nat} (h : 0 < T.n) (b : T.n.natAbs < 2 ^ k) (hk : k ≤ 9000) : d_llower [m3 T, .int T.n] = .ok (.val (tn T.low)) := by
  have hg := Tn.g_pos h
  have hg0 : T.g ≠ 0 := by omega
  have hb := bd_mono (Tn.g_bd h b) hk
  refine o_llower ?_
  unfold b_llower
  walk_at "ev"
  rw [show ((gcdL [T.p.x, T.p.y, T.p.z, T.q.x, T.q.y, T.q.z, T.r.x, T.r.y, T.r.z, T.n] : Nat) : Int) = T.g from rfl]
  walk_at "ev"
  simp only [fdiv_pos hg]
  rfl
theorem run_lowest {T : Tn} {k : Nat} (h : 0 < T.n) (b : T.n.natAbs < 2 ^ k) (hk : k ≤ 9000) : d_lowest [m3 T, .int T.n] = .ok (.val (tn T.low)) := by
  have hg := Tn.g_pos h
  have hg0 : T.g ≠ 0 := by omega
  have hb := bd_mono (Tn.g_bd h b) hk
  refine o_lowest ?_
  unfold b_lowest
  walk_at "ev"
  rw [gcdL_same (ys := T.all) (fun x => by rw [show T.all = [T.p.x, T.p.y, T.p.z, T.q.x, T.q.y, T.q.z, T.r.x, T.r.y, T.r.z] ++ [T.n] from rfl, List.mem_append, List.mem_cons, List.mem_singleton, or_comm])]
  rw [show ((gcdL T.all : Nat) : Int) = T.g from rfl]
  walk_at "ev"
  simp only [fdiv_pos hg]
  rfl
def Tn.ofQ (q : Q) : Tn := ⟨⟨q.a * q.a + q.b * q.b - q.c * q.c - q.d * q.d, 2 * (q.b * q.c - q.a * q.d), 2 * (q.b * q.d + q.a * q.c)⟩,
  ⟨2 * (q.b * q.c + q.a * q.d), q.a * q.a - q.b * q.b + q.c * q.c - q.d * q.d, 2 * (q.c * q.d - q.a * q.b)⟩,
  ⟨2 * (q.b * q.d - q.a * q.c), 2 * (q.c * q.d + q.a * q.b), q.a * q.a - q.b * q.b - q.c * q.c + q.d * q.d⟩, q.size⟩
def Tn.of (q : Q) : Tn := (Tn.ofQ q).low
theorem sq_nn (a : Int) : 0 ≤ a * a := by
  rcases Int.lt_or_le a 0 with h | h
  · exact Int.le_of_lt (Int.mul_pos_of_neg_of_neg h h)
  · exact Int.mul_nonneg h h
theorem sq_pos {a : Int} (h : a ≠ 0) : 0 < a * a := by
  rcases Int.lt_or_gt_of_ne h with h | h
  · exact Int.mul_pos_of_neg_of_neg h h
  · exact Int.mul_pos h h
theorem Q.size_pos {q : Q} (h : q ≠ Q.zero) : 0 < q.size := by
  have h1 := sq_nn q.a; have h2 := sq_nn q.b; have h3 := sq_nn q.c; have h4 := sq_nn q.d
  unfold Q.size
  have hl := Q.lead_ne h
  have hm := Q.lead_mem q
  have h5 := sq_pos hl
  simp only [Q.vs, List.mem_cons, List.not_mem_nil, or_false] at hm
  rcases hm with e | e | e | e <;> rw [e] at h5 <;> omega
theorem run_ltable {q : Q} {k : Nat} (h : q ≠ Q.zero) (b : q.ok k) (hk : k ≤ 4000) : d_ltable [q4 q] = .ok (.val (tn (Tn.of q))) := by
  have hs := Q.size_pos h
  have hb := Q.bd_size b
  have f := run_llower (T := Tn.ofQ q) hs hb (by omega)
  obtain ⟨b1, b2, b3, b4⟩ := b
  refine o_ltable ?_
  unfold b_ltable
  walk_at "ev"
  rw [show d_llower [PyData.tuple [.tuple [.int (q.a * q.a + q.b * q.b - q.c * q.c - q.d * q.d), .int (2 * (q.b * q.c - q.a * q.d)), .int (2 * (q.b * q.d + q.a * q.c))], .tuple [.int (2 * (q.b * q.c + q.a * q.d)), .int (q.a * q.a - q.b * q.b + q.c * q.c - q.d * q.d), .int (2 * (q.c * q.d - q.a * q.b))], .tuple [.int (2 * (q.b * q.d - q.a * q.c)), .int (2 * (q.c * q.d + q.a * q.b)), .int (q.a * q.a - q.b * q.b - q.c * q.c + q.d * q.d)]], .int (q.a * q.a + q.b * q.b + q.c * q.c + q.d * q.d)] = _ from f]
  walk_at "ev"
  rfl
theorem run_turn_of {q : Q} {k : Nat} (h : q ≠ Q.zero) (b : q.ok k) (hk : k ≤ 4000) : d_turn_of [q4 q] = .ok (.val (tn (Tn.of q))) := by
  have hs := Q.size_pos h
  have hb := Q.bd_size b
  have f := run_lowest (T := Tn.ofQ q) hs hb (by omega)
  have f2 := run_size b (by omega)
  have f3 : (q.size == 0) = false := by simp; omega
  obtain ⟨b1, b2, b3, b4⟩ := b
  refine o_turn_of ?_
  unfold b_turn_of
  repeat (first | walk_at "ev" | rw [f2] | rw [f3])
  have t : ∀ x y : Int, 2 * x * y = 2 * (x * y) := fun x y => Int.mul_assoc 2 x y
  simp only [t, ← Int.mul_sub, ← Int.mul_add]
  rw [show d_lowest [PyData.tuple [.tuple [.int (q.a * q.a + q.b * q.b - q.c * q.c - q.d * q.d), .int (2 * (q.b * q.c - q.a * q.d)), .int (2 * (q.b * q.d + q.a * q.c))], .tuple [.int (2 * (q.b * q.c + q.a * q.d)), .int (q.a * q.a - q.b * q.b + q.c * q.c - q.d * q.d), .int (2 * (q.c * q.d - q.a * q.b))], .tuple [.int (2 * (q.b * q.d - q.a * q.c)), .int (2 * (q.c * q.d + q.a * q.b)), .int (q.a * q.a - q.b * q.b - q.c * q.c + q.d * q.d)]], .int q.size] = _ from f]
  walk_at "ev"
  rfl
structure Up (T : Tn) : Prop where
  n : 0 < T.n
  pp : T.p.dot T.p = T.n * T.n
  qq : T.q.dot T.q = T.n * T.n
  rr : T.r.dot T.r = T.n * T.n
  pq : T.p.dot T.q = 0
  pr : T.p.dot T.r = 0
  qr : T.q.dot T.r = 0
  det : T.p.x * (T.q.y * T.r.z - T.q.z * T.r.y) - T.p.y * (T.q.x * T.r.z - T.q.z * T.r.x) + T.p.z * (T.q.x * T.r.y - T.q.y * T.r.x) = T.n * T.n * T.n
theorem Up.ofQ {q : Q} (h : q ≠ Q.zero) : Up (Tn.ofQ q) := by
  refine ⟨Q.size_pos h, ?_, ?_, ?_, ?_, ?_, ?_, ?_⟩ <;> simp only [Tn.ofQ, V3.dot, Q.size] <;> grind
theorem Lw.n {T L : Tn} {s : Int} (h : Lw T L s) (k : 0 < T.n) : 0 < L.n := by
  have e : T.n = s * L.n := congrArg Tn.n h.e
  rcases Int.lt_or_le 0 L.n with z | z
  · exact z
  · have := Int.mul_nonpos_of_nonneg_of_nonpos (Int.le_of_lt h.s) z
    omega
theorem dot_sc (s : Int) (v w : V3) : (V3.sc s v).dot (V3.sc s w) = s * s * v.dot w := by simp only [V3.sc, V3.dot]; grind
def V3.det (p q r : V3) : Int := p.x * (q.y * r.z - q.z * r.y) - p.y * (q.x * r.z - q.z * r.x) + p.z * (q.x * r.y - q.y * r.x)
theorem det_sc (s : Int) (p q r : V3) : V3.det (V3.sc s p) (V3.sc s q) (V3.sc s r) = s * s * s * V3.det p q r := by simp only [V3.sc, V3.det]; grind
theorem Lw.up {T L : Tn} {s : Int} (h : Lw T L s) (k : Up T) : Up L := by
  have hs := h.s
  have h2 : s * s ≠ 0 := Int.mul_ne_zero (by omega) (by omega)
  have h3 : s * s * s ≠ 0 := Int.mul_ne_zero h2 (by omega)
  have ep : T.p = V3.sc s L.p := congrArg Tn.p h.e
  have eq : T.q = V3.sc s L.q := congrArg Tn.q h.e
  have er : T.r = V3.sc s L.r := congrArg Tn.r h.e
  have en : T.n = s * L.n := congrArg Tn.n h.e
  have e2 : T.n * T.n = s * s * (L.n * L.n) := by rw [en]; grind
  have e3 : T.n * T.n * T.n = s * s * s * (L.n * L.n * L.n) := by rw [en]; grind
  have f := fun {a b : Int} (h : s * s * a = s * s * b) => Int.eq_of_mul_eq_mul_left h2 h
  have z : (0 : Int) = s * s * 0 := (Int.mul_zero _).symm
  refine ⟨h.n k.n, f ?_, f ?_, f ?_, f ?_, f ?_, f ?_, Int.eq_of_mul_eq_mul_left h3 ?_⟩
  · rw [← dot_sc, ← ep, ← e2]; exact k.pp
  · rw [← dot_sc, ← eq, ← e2]; exact k.qq
  · rw [← dot_sc, ← er, ← e2]; exact k.rr
  · rw [← dot_sc, ← ep, ← eq, ← z]; exact k.pq
  · rw [← dot_sc, ← ep, ← er, ← z]; exact k.pr
  · rw [← dot_sc, ← eq, ← er, ← z]; exact k.qr
  · rw [← e3]
    refine Eq.trans (det_sc s L.p L.q L.r).symm ?_
    rw [← ep, ← eq, ← er]; exact k.det
structure IsT (T : Tn) : Prop where
  u : Up T
  g : gcdL T.all = 1
theorem IsT.of {q : Q} (h : q ≠ Q.zero) : IsT (Tn.of q) := ⟨(Tn.lw (Q.size_pos h)).up (Up.ofQ h), (Tn.lw (Q.size_pos h)).g⟩
theorem Lw.uniq {T L L' : Tn} {s s' : Int} (h : Lw T L s) (h' : Lw T L' s') : L = L' ∧ s = s' := by
  have g1 : ∀ {T L : Tn} {s : Int}, Lw T L s → gcdL T.all = s.natAbs := fun {T L s} h => by
    have e : T.all = L.all.map (s * ·) := by rw [h.e]; rfl
    rw [e, gcdL_scale, h.g, Nat.mul_one]
  have e : s = s' := by
    have := g1 h; have := g1 h'; have := h.s; have := h'.s; omega
  subst e
  refine ⟨?_, rfl⟩
  have q := h.e.symm.trans h'.e
  have hs : s ≠ 0 := by have := h.s; omega
  obtain ⟨⟨px, py, pz⟩, ⟨qx, qy, qz⟩, ⟨rx, ry, rz⟩, n⟩ := L
  obtain ⟨⟨px', py', pz'⟩, ⟨qx', qy', qz'⟩, ⟨rx', ry', rz'⟩, n'⟩ := L'
  simp only [Tn.sc, V3.sc, Tn.mk.injEq, V3.mk.injEq, Int.mul_eq_mul_left_iff hs] at q ⊢
  exact q
theorem Tn.of_sc {q : Q} {m : Int} (h : q ≠ Q.zero) (hm : m ≠ 0) : Tn.of (Q.sc m q) = Tn.of q := by
  have hz : Q.sc m q ≠ Q.zero := fun e => h (Q.sc_inj hm (e.trans (by simp [Q.sc, Q.zero])))
  have h1 := Tn.lw (T := Tn.ofQ q) (Q.size_pos h)
  have h2 := Tn.lw (T := Tn.ofQ (Q.sc m q)) (Q.size_pos hz)
  have e : Tn.ofQ (Q.sc m q) = Tn.sc (m * m) (Tn.ofQ q) := by
    simp only [Tn.ofQ, Tn.sc, V3.sc, Q.sc, Q.size, Tn.mk.injEq, V3.mk.injEq]; grind
  have h3 : Lw (Tn.ofQ (Q.sc m q)) (Tn.ofQ q).low (m * m * (Tn.ofQ q).g) := by
    refine ⟨?_, Int.mul_pos (sq_pos hm) h1.s, h1.g⟩
    conv => lhs; rw [e, h1.e]
    simp only [Tn.sc, V3.sc, Int.mul_assoc]
  exact (h2.uniq h3).1
theorem set4_0 {a b c d v : D} : setAt [a, b, c, d] 0 v = .ok [v, b, c, d] := rfl
theorem set4_1 {a b c d v : D} : setAt [a, b, c, d] 1 v = .ok [a, v, c, d] := rfl
theorem set4_2 {a b c d v : D} : setAt [a, b, c, d] 2 v = .ok [a, b, v, d] := rfl
theorem set4_3 {a b c d v : D} : setAt [a, b, c, d] 3 v = .ok [a, b, c, v] := rfl
theorem set3_0 {a b c v : D} : setAt [a, b, c] 0 v = .ok [v, b, c] := rfl
theorem set3_1 {a b c v : D} : setAt [a, b, c] 1 v = .ok [a, v, c] := rfl
theorem set3_2 {a b c v : D} : setAt [a, b, c] 2 v = .ok [a, b, v] := rfl
theorem V3.dot_comm (v w : V3) : v.dot w = w.dot v := by simp only [V3.dot]; grind
theorem sc_bd {s x : Int} {n : Nat} (hs : s ≠ 0) (hx : (s * x).natAbs < 2 ^ n) : x.natAbs < 2 ^ n := by
  rw [Int.natAbs_mul] at hx
  have h1 : 0 < s.natAbs := by omega
  have := Nat.le_mul_of_pos_left x.natAbs h1
  omega
theorem dot_bd {v w : V3} {k m : Nat} (h : v.ok k) (b : w.ok m) : (v.dot w).natAbs < 2 ^ (k + m + 2) :=
  bd_mono (bd_add (bd_add (bd_mul h.1 b.1) (bd_mul h.2.1 b.2.1)) (bd_mul h.2.2 b.2.2)) (by omega)
theorem Tn.ok_ofQ {q : Q} {k : Nat} (b : q.ok k) : (Tn.ofQ q).ok (2 * k + 4) := by
  obtain ⟨b1, b2, b3, b4⟩ := id b
  have s2 : (2 : Int).natAbs < 2 ^ 2 := by decide
  have c1 := bd_mul b1 b1; have c2 := bd_mul b2 b2; have c3 := bd_mul b3 b3; have c4 := bd_mul b4 b4
  have d1 := bd_mul b2 b3; have d2 := bd_mul b1 b4; have d3 := bd_mul b2 b4; have d4 := bd_mul b1 b3; have d5 := bd_mul b3 b4; have d6 := bd_mul b1 b2
  refine ⟨⟨bd_mono (bd_sub (bd_sub (bd_add c1 c2) c3) c4) ?_, bd_mono (bd_mul s2 (bd_sub d1 d2)) ?_, bd_mono (bd_mul s2 (bd_add d3 d4)) ?_⟩,
    ⟨bd_mono (bd_mul s2 (bd_add d1 d2)) ?_, bd_mono (bd_sub (bd_add (bd_sub c1 c2) c3) c4) ?_, bd_mono (bd_mul s2 (bd_sub d5 d6)) ?_⟩,
    ⟨bd_mono (bd_mul s2 (bd_sub d3 d4)) ?_, bd_mono (bd_mul s2 (bd_add d5 d6)) ?_, bd_mono (bd_add (bd_sub (bd_sub c1 c2) c3) c4) ?_⟩, bd_mono (Q.bd_size b) ?_⟩ <;> omega
theorem Lw.ok {T L : Tn} {s : Int} {k : Nat} (h : Lw T L s) (b : T.ok k) : L.ok k := by
  have hs : s ≠ 0 := by have := h.s; omega
  rw [h.e] at b
  obtain ⟨⟨p1, p2, p3⟩, ⟨q1, q2, q3⟩, ⟨r1, r2, r3⟩, n1⟩ := b
  exact ⟨⟨sc_bd hs p1, sc_bd hs p2, sc_bd hs p3⟩, ⟨sc_bd hs q1, sc_bd hs q2, sc_bd hs q3⟩, ⟨sc_bd hs r1, sc_bd hs r2, sc_bd hs r3⟩, sc_bd hs n1⟩
theorem Tn.ok_of {q : Q} {k : Nat} (h : q ≠ Q.zero) (b : q.ok k) : (Tn.of q).ok (2 * k + 4) := (Tn.lw (T := Tn.ofQ q) (Q.size_pos h)).ok (Tn.ok_ofQ b)
end Lb
namespace Lb
open PySem Tg
end Lb
namespace Lb
open PySem Tg
local macro_rules | `(tactic| walk_at "bd") => `(tactic| first | assumption | exact near_b3 | exact near_b6 | exact near_b9 | exact near_b999 | exact near_b1000 | exact near_b12 | exact near_b15 | exact near_b20 | exact near_b30 | exact near_b60 | exact bd_lit rfl (by decide) | (refine' bd_add ?h1 ?h2; (case h1 => walk_at "bd"); (case h2 => walk_at "bd")) | (refine' bd_sub ?h1 ?h2; (case h1 => walk_at "bd"); (case h2 => walk_at "bd")) | (refine' bd_mul ?h1 ?h2; (case h1 => walk_at "bd"); (case h2 => walk_at "bd")) | (refine' bd_neg ?_; walk_at "bd"))
local macro_rules | `(tactic| walk_at "ok") => `(tactic| first | assumption | decide | (refine line_lt ?_; (first | omega | (simp only [List.length_map, List.length_set, List.length_append, List.length_cons, List.length_nil, List.length_reverse]; omega))) | (refine' mulOk_of ?h1 ?h2 ?h3; (case h1 => walk_at "bd"); (case h2 => walk_at "bd"); (case h3 => first | decide | omega | (simp only [Nat.max_def]; first | decide | omega))) | (refine divOk_of ?_ ?_ <;> first | assumption | decide +kernel | omega) | omega | (simp -implicitDefEqProofs only [allI_nil, allI_cons, allI_map, allI_app, Bool.and_self, Bool.and_true]; done))
theorem all_3 : [true, true, true].all id = true := rfl
theorem all_4 : [true, true, true, true].all id = true := rfl
theorem bools_3 : boolsD [.bool true, .bool true, .bool true] = some [true, true, true] := rfl
theorem bools_4 : boolsD [.bool true, .bool true, .bool true, .bool true] = some [true, true, true, true] := rfl
theorem run_ldivq {q : Q} : d_ldivisor [q4 q] = .ok (.val (.int (gcdL q.vs : Nat))) := run_ldiv0 (xs := q.vs) rfl
theorem run_divq {q : Q} : d_divisor [q4 q] = .ok (.val (.int (gcdL q.vs : Nat))) := run_div0 (xs := q.vs) rfl
theorem sum3 {a b c : Int} : [a, b, c].sum = a + b + c := by simp only [List.sum_cons, List.sum_nil]; omega
theorem sum4 {a b c d : Int} : [a, b, c, d].sum = a + b + c + d := by simp only [List.sum_cons, List.sum_nil]; omega
theorem sq4 (a : Int) : a * a % 4 = a % 2 := by
  obtain ⟨k, r, h, hr⟩ : ∃ k r : Int, a = 2 * k + r ∧ (r = 0 ∨ r = 1) := ⟨a / 2, a % 2, by omega, by omega⟩
  have e : a * a = 4 * (k * k + k * r) + r * r := by rw [h]; grind
  rcases hr with rfl | rfl <;> omega
theorem sq8 {a : Int} (h : a % 2 = 1) : a * a % 8 = 1 := by
  obtain ⟨k, hk⟩ : ∃ k : Int, a = 2 * k + 1 := ⟨a / 2, by omega⟩
  have h2 : (k * k + k) % 2 = 0 := by
    have := sq4 k
    omega
  have e : a * a = 4 * (k * k + k) + 1 := by rw [hk]; grind
  omega
theorem odd_mul {a b : Int} (ha : a % 2 = 1) (hb : b % 2 = 1) : a * b % 2 = 1 := by
  obtain ⟨k, hk⟩ : ∃ k : Int, a = 2 * k + 1 := ⟨a / 2, by omega⟩
  obtain ⟨j, hj⟩ : ∃ j : Int, b = 2 * j + 1 := ⟨b / 2, by omega⟩
  have e : a * b = 2 * (2 * (k * j) + k + j) + 1 := by rw [hk, hj]; grind
  omega
theorem dvd_g {T : Tn} {e : Nat} (h1 : (e : Int) ∣ T.p.x) (h2 : (e : Int) ∣ T.p.y) (h3 : (e : Int) ∣ T.p.z) (h4 : (e : Int) ∣ T.q.x) (h5 : (e : Int) ∣ T.q.y) (h6 : (e : Int) ∣ T.q.z) (h7 : (e : Int) ∣ T.r.x) (h8 : (e : Int) ∣ T.r.y) (h9 : (e : Int) ∣ T.r.z) (h10 : (e : Int) ∣ T.n) : e ∣ gcdL T.all := by
  refine dvd_gcdL fun x hx => ?_
  simp only [Tn.all, List.mem_cons, List.not_mem_nil, or_false] at hx
  rcases hx with rfl | rfl | rfl | rfl | rfl | rfl | rfl | rfl | rfl | rfl <;> assumption
theorem prim_even {p : Q} (h : p.g = 1) : ¬ (p.a % 2 = 0 ∧ p.b % 2 = 0 ∧ p.c % 2 = 0 ∧ p.d % 2 = 0) := fun ⟨h1, h2, h3, h4⟩ => by
  have : 2 ∣ p.g := dvd_gcdL fun x hx => by
    simp only [Q.vs, List.mem_cons, List.not_mem_nil, or_false] at hx
    rcases hx with rfl | rfl | rfl | rfl <;> exact Int.dvd_of_emod_eq_zero (by assumption)
  rw [h] at this
  omega
theorem four_of {p : Q} (h : p.g = 1) : gcdL (Tn.ofQ p).all ∣ 4 := by
  generalize hG : gcdL (Tn.ofQ p).all = G
  have d : ∀ x ∈ (Tn.ofQ p).all, ∃ k : Int, x = G * k := fun x hx => by rw [← hG]; exact gcdL_dvd hx
  obtain ⟨k1, e1⟩ := d (Tn.ofQ p).p.x (by simp [Tn.all])
  obtain ⟨k2, e2⟩ := d (Tn.ofQ p).p.y (by simp [Tn.all])
  obtain ⟨k3, e3⟩ := d (Tn.ofQ p).p.z (by simp [Tn.all])
  obtain ⟨k4, e4⟩ := d (Tn.ofQ p).q.x (by simp [Tn.all])
  obtain ⟨k5, e5⟩ := d (Tn.ofQ p).q.y (by simp [Tn.all])
  obtain ⟨k6, e6⟩ := d (Tn.ofQ p).q.z (by simp [Tn.all])
  obtain ⟨k7, e7⟩ := d (Tn.ofQ p).r.x (by simp [Tn.all])
  obtain ⟨k8, e8⟩ := d (Tn.ofQ p).r.y (by simp [Tn.all])
  obtain ⟨k9, e9⟩ := d (Tn.ofQ p).r.z (by simp [Tn.all])
  obtain ⟨k0, e0⟩ := d (Tn.ofQ p).n (by simp [Tn.all])
  simp only [Tn.ofQ, Q.size] at e1 e2 e3 e4 e5 e6 e7 e8 e9 e0
  obtain ⟨a, b, c, d'⟩ := p
  simp only at e1 e2 e3 e4 e5 e6 e7 e8 e9 e0
  have aa : (G : Int) ∣ 4 * a * a := ⟨k0 + k1 + k5 + k9, by simp only [Int.mul_add, ← e0, ← e1, ← e5, ← e9]; grind⟩
  have bb : (G : Int) ∣ 4 * b * b := ⟨k0 + k1 - k5 - k9, by simp only [Int.mul_add, Int.mul_sub, ← e0, ← e1, ← e5, ← e9]; grind⟩
  have cc : (G : Int) ∣ 4 * c * c := ⟨k0 - k1 + k5 - k9, by simp only [Int.mul_add, Int.mul_sub, ← e0, ← e1, ← e5, ← e9]; grind⟩
  have dd : (G : Int) ∣ 4 * d' * d' := ⟨k0 - k1 - k5 + k9, by simp only [Int.mul_add, Int.mul_sub, ← e0, ← e1, ← e5, ← e9]; grind⟩
  have bc : (G : Int) ∣ 4 * b * c := ⟨k2 + k4, by simp only [Int.mul_add, Int.mul_sub, ← e2, ← e4]; grind⟩
  have ad : (G : Int) ∣ 4 * a * d' := ⟨k4 - k2, by simp only [Int.mul_add, Int.mul_sub, ← e2, ← e4]; grind⟩
  have bd : (G : Int) ∣ 4 * b * d' := ⟨k3 + k7, by simp only [Int.mul_add, Int.mul_sub, ← e3, ← e7]; grind⟩
  have ac : (G : Int) ∣ 4 * a * c := ⟨k3 - k7, by simp only [Int.mul_add, Int.mul_sub, ← e3, ← e7]; grind⟩
  have cd : (G : Int) ∣ 4 * c * d' := ⟨k6 + k8, by simp only [Int.mul_add, Int.mul_sub, ← e6, ← e8]; grind⟩
  have ab : (G : Int) ∣ 4 * a * b := ⟨k8 - k6, by simp only [Int.mul_add, Int.mul_sub, ← e6, ← e8]; grind⟩
  have cm : ∀ {x y : Int}, (G : Int) ∣ 4 * x * y → (G : Int) ∣ 4 * y * x := fun {x y} h => by rwa [Int.mul_assoc, Int.mul_comm y x, ← Int.mul_assoc]
  have one : ∀ m : Int, (G : Int) ∣ m * a → (G : Int) ∣ m * b → (G : Int) ∣ m * c → (G : Int) ∣ m * d' → (G : Int) ∣ m := fun m h1 h2 h3 h4 => by
    have q : G ∣ gcdL (List.map (m * ·) [a, b, c, d']) := dvd_gcdL fun x hx => by
      simp only [List.map_cons, List.map_nil, List.mem_cons, List.not_mem_nil, or_false] at hx
      rcases hx with rfl | rfl | rfl | rfl <;> assumption
    rw [gcdL_scale, show gcdL [a, b, c, d'] = 1 from h, Nat.mul_one] at q
    exact Int.ofNat_dvd_left.mpr q
  have q := one 4 (one (4 * a) aa ab ac ad) (one (4 * b) (cm ab) bb bc bd) (one (4 * c) (cm ac) (cm bc) cc cd) (one (4 * d') (cm ad) (cm bd) (cm cd) dd)
  exact Int.ofNat_dvd.mp q
theorem two_part {p : Q} (h : p.g = 1) (hz : p ≠ Q.zero) : ∃ G : Int, (G = 1 ∨ G = 2 ∨ G = 4) ∧ p.size = G * (Tn.of p).n ∧ (Tn.of p).n % 2 = 1 := by
  have h4 := four_of h
  have hl := Tn.lw (T := Tn.ofQ p) (Q.size_pos hz)
  have en : p.size = (Tn.ofQ p).g * (Tn.of p).n := congrArg Tn.n hl.e
  have hg : (Tn.ofQ p).g = (gcdL (Tn.ofQ p).all : Nat) := rfl
  have pe := prim_even h
  have sa := sq4 p.a; have sb := sq4 p.b; have sc := sq4 p.c; have sd := sq4 p.d
  have hs : p.size = p.a * p.a + p.b * p.b + p.c * p.c + p.d * p.d := rfl
  have hle := Nat.le_of_dvd (by decide) h4
  have two : p.size % 2 = 0 → 2 ∣ gcdL (Tn.ofQ p).all := fun hn => by
    have hn' : (Tn.ofQ p).n % 2 = 0 := hn
    refine dvd_g ?_ ?_ ?_ ?_ ?_ ?_ ?_ ?_ ?_ ?_ <;> refine Int.dvd_of_emod_eq_zero ?_ <;> simp only [Tn.ofQ] <;> omega
  have odds : p.size % 4 = 0 → p.a % 2 = 1 ∧ p.b % 2 = 1 ∧ p.c % 2 = 1 ∧ p.d % 2 = 1 := fun hn => by omega
  have four : p.size % 4 = 0 → 4 ∣ gcdL (Tn.ofQ p).all := fun hn => by
    obtain ⟨oa, ob, oc, od⟩ := odds hn
    have m1 := odd_mul ob oc; have m2 := odd_mul oa od; have m3 := odd_mul ob od; have m4 := odd_mul oa oc; have m5 := odd_mul oc od; have m6 := odd_mul oa ob
    have t1 := sq8 oa; have t2 := sq8 ob; have t3 := sq8 oc; have t4 := sq8 od
    refine dvd_g ?_ ?_ ?_ ?_ ?_ ?_ ?_ ?_ ?_ ?_ <;> refine Int.dvd_of_emod_eq_zero ?_ <;> simp only [Tn.ofQ] <;> omega
  have eight : p.size % 8 ≠ 0 := fun hn => by
    obtain ⟨oa, ob, oc, od⟩ := odds (by omega)
    have t1 := sq8 oa; have t2 := sq8 ob; have t3 := sq8 oc; have t4 := sq8 od
    omega
  generalize gcdL (Tn.ofQ p).all = G at *
  have hG : G = 1 ∨ G = 2 ∨ G = 4 := by
    have : G = 0 ∨ G = 1 ∨ G = 2 ∨ G = 3 ∨ G = 4 := by omega
    rcases this with rfl | rfl | rfl | rfl | rfl <;> revert h4 <;> decide
  refine ⟨(G : Int), by omega, by rw [en, hg], ?_⟩
  rw [hg] at en
  rcases hG with rfl | rfl | rfl
  · rcases Int.emod_two_eq (Tn.of p).n with z | z
    · have := two (by omega); omega
    · exact z
  · rcases Int.emod_two_eq (Tn.of p).n with z | z
    · have := four (by omega); omega
    · exact z
  · rcases Int.emod_two_eq (Tn.of p).n with z | z
    · exact absurd (by omega) eight
    · exact z
theorem deep_n (T : Tn) : SeqAt.shaped (tn T) = true := by
  unfold SeqAt.shaped tn m3 t3
  simp [PyData.canLay0, PyData.canLayAll0, PyData.depth, PyData.depthAll]
theorem eqv_nn (T : Tn) : PyData.eqv (tn T) (tn T) = true := by
  unfold tn m3 t3
  simp [PyData.eqv, PyData.eqvAll]
theorem eq_nn {T : Tn} : cmpD .eq (tn T) (tn T) = .ok (.val (.bool true)) := by
  rw [eq_dd, if_pos (by unfold eqOk; rw [deep_n]; rfl), eqv_nn]
theorem zip_v {v w : V3} : itD .zip [t3 v, t3 w] = .ok [.tuple [.int v.x, .int w.x], .tuple [.int v.y, .int w.y], .tuple [.int v.z, .int w.z]] := rfl
theorem tup_v {v : V3} : biD .tuple [t3 v] = .ok (.val (t3 v)) := rfl
def V3.sub (v : V3) (n : Int) (r : V3) : V3 := ⟨v.x - n * r.x, v.y - n * r.y, v.z - n * r.z⟩
theorem div_bd {a b : Int} {n : Nat} (h : a.natAbs < 2 ^ n) : (a / b).natAbs < 2 ^ n := Nat.lt_of_le_of_lt (Int.natAbs_ediv_le_natAbs a b) h
theorem eqv_v (v w : V3) : PyData.eqv (t3 v) (t3 w) = (v.x == w.x && (v.y == w.y && v.z == w.z)) := by
  simp [t3, PyData.eqv, PyData.eqvAll]
theorem ne_rows {a b c : V3} : cmpD .ne (.list [t3 a, t3 b, t3 c]) (.list [t3 a, t3 b, t3 c]) = .ok (.val (.bool false)) := by
  rw [ne_dd, if_pos]
  · simp [PyData.eqv, PyData.eqvAll, eqv_v]
  · unfold eqOk SeqAt.shaped t3
    simp [PyData.canLay0, PyData.canLayAll0, PyData.depth, PyData.depthAll]
end Lb
namespace Lb
open PySem Tg
def b_quad_of : List S :=
   [.asg (.tp [.tp [.nm 4, .nm 5, .nm 6], .nm 3]) (.var 0),
    .asg (.nm 1) (.tup [.bop .sub (.ix (.var 6) (.con (.int 1))) (.ix (.var 5) (.con (.int 2))), .bop .sub (.ix (.var 4) (.con (.int 2))) (.ix (.var 6) (.con (.int 0))), .bop .sub (.ix (.var 5) (.con (.int 0))) (.ix (.var 4) (.con (.int 1)))]),
    .set 2 (.lst [.tup [.bop .add (.bop .add (.bop .add (.var 3) (.ix (.var 4) (.con (.int 0)))) (.ix (.var 5) (.con (.int 1)))) (.ix (.var 6) (.con (.int 2))), .ix (.var 1) (.con (.int 0)), .ix (.var 1) (.con (.int 1)), .ix (.var 1) (.con (.int 2))]]),
    .app 2 (.tup [.ix (.var 1) (.con (.int 0)), .bop .sub (.bop .sub (.bop .add (.var 3) (.ix (.var 4) (.con (.int 0)))) (.ix (.var 5) (.con (.int 1)))) (.ix (.var 6) (.con (.int 2))), .bop .add (.ix (.var 4) (.con (.int 1))) (.ix (.var 5) (.con (.int 0))), .bop .add (.ix (.var 4) (.con (.int 2))) (.ix (.var 6) (.con (.int 0)))]),
    .app 2 (.tup [.ix (.var 1) (.con (.int 1)), .bop .add (.ix (.var 4) (.con (.int 1))) (.ix (.var 5) (.con (.int 0))), .bop .sub (.bop .add (.bop .sub (.var 3) (.ix (.var 4) (.con (.int 0)))) (.ix (.var 5) (.con (.int 1)))) (.ix (.var 6) (.con (.int 2))), .bop .add (.ix (.var 5) (.con (.int 2))) (.ix (.var 6) (.con (.int 1)))]),
    .app 2 (.tup [.ix (.var 1) (.con (.int 2)), .bop .add (.ix (.var 4) (.con (.int 2))) (.ix (.var 6) (.con (.int 0))), .bop .add (.ix (.var 5) (.con (.int 2))) (.ix (.var 6) (.con (.int 1))), .bop .add (.bop .sub (.bop .sub (.var 3) (.ix (.var 4) (.con (.int 0)))) (.ix (.var 5) (.con (.int 1)))) (.ix (.var 6) (.con (.int 2)))]),
    .ret (.call 0 [.ix (.lc (.var 7) (.nm 7) .seq [.var 2] [.cmp .gt (.call 1 [.var 7]) (.con (.int 0))] [7]) (.con (.int 0))])]
noncomputable def d_quad_of : List D → M B := runF (phi [d_plain, d_size]) 1 8 b_quad_of
theorem o_quad_of {x0 : D} {r : M B} (h : endD (exL (phi [d_plain, d_size]) b_quad_of [some (.val x0), none, none, none, none, none, none, none]) = r) : d_quad_of [x0] = r := run_of rfl rfl h
end Lb
namespace Lb
open PySem Tg
local macro_rules | `(tactic| walk_at "bd") => `(tactic| first | assumption | exact near_b3 | exact near_b6 | exact near_b9 | exact near_b999 | exact near_b1000 | exact near_b12 | exact near_b15 | exact near_b20 | exact near_b30 | exact near_b60 | exact bd_lit rfl (by decide) | (refine' bd_add ?h1 ?h2; (case h1 => walk_at "bd"); (case h2 => walk_at "bd")) | (refine' bd_sub ?h1 ?h2; (case h1 => walk_at "bd"); (case h2 => walk_at "bd")) | (refine' bd_mul ?h1 ?h2; (case h1 => walk_at "bd"); (case h2 => walk_at "bd")) | (refine' bd_neg ?_; walk_at "bd"))
local macro_rules | `(tactic| walk_at "ok") => `(tactic| first | assumption | decide | (refine line_lt ?_; (first | omega | (simp only [List.length_map, List.length_set, List.length_append, List.length_cons, List.length_nil, List.length_reverse]; omega))) | (refine' mulOk_of ?h1 ?h2 ?h3; (case h1 => walk_at "bd"); (case h2 => walk_at "bd"); (case h3 => first | decide | omega | (simp only [Nat.max_def]; first | decide | omega))) | (refine divOk_of ?_ ?_ <;> first | assumption | decide +kernel | omega) | omega | (simp -implicitDefEqProofs only [allI_nil, allI_cons, allI_map, allI_app, Bool.and_self, Bool.and_true]; done))
theorem size_sc (u : Int) (p : Q) : (Q.sc u p).size = u * u * p.size := by simp only [Q.sc, Q.size]; grind
theorem first_of {p : Q} {h : Int} (hz : p ≠ Q.zero) (hh : h ≠ 0) : ∃ (u : Int) (r : List Q), u ≠ 0 ∧ [Q.sc (h * p.a) p, Q.sc (h * p.b) p, Q.sc (h * p.c) p, Q.sc (h * p.d) p].filter (fun x => decide (0 < x.size)) = Q.sc u p :: r := by
  have hs := Q.size_pos hz
  have pos : ∀ x : Int, x ≠ 0 → decide (0 < (Q.sc (h * x) p).size) = true := fun x hx => by
    rw [size_sc]
    exact decide_eq_true (Int.mul_pos (sq_pos (Int.mul_ne_zero hh hx)) hs)
  have neg : ∀ x : Int, x = 0 → decide (0 < (Q.sc (h * x) p).size) = false := fun x hx => by
    rw [size_sc, hx]
    simp
  have hl := Q.lead_ne hz
  unfold Q.lead at hl
  simp only [List.filter_cons, List.filter_nil]
  by_cases ha : p.a = 0
  · rw [neg _ ha]
    simp only [ha, if_true] at hl
    by_cases hb : p.b = 0
    · rw [neg _ hb]
      simp only [hb, if_true] at hl
      by_cases hc : p.c = 0
      · rw [neg _ hc]
        simp only [hc, if_true] at hl
        rw [pos _ hl]
        exact ⟨h * p.d, _, Int.mul_ne_zero hh hl, rfl⟩
      · rw [pos _ hc]
        exact ⟨h * p.c, _, Int.mul_ne_zero hh hc, rfl⟩
    · rw [pos _ hb]
      exact ⟨h * p.b, _, Int.mul_ne_zero hh hb, rfl⟩
  · rw [pos _ ha]
    exact ⟨h * p.a, _, Int.mul_ne_zero hh ha, rfl⟩
theorem rows_of {p : Q} {T : Tn} {G h : Int} (L : Lw (Tn.ofQ p) T G) (e : G * h = 4) :
    (⟨T.n + T.p.x + T.q.y + T.r.z, T.r.y - T.q.z, T.p.z - T.r.x, T.q.x - T.p.y⟩ : Q) = Q.sc (h * p.a) p ∧
    (⟨T.r.y - T.q.z, T.n + T.p.x - T.q.y - T.r.z, T.p.y + T.q.x, T.p.z + T.r.x⟩ : Q) = Q.sc (h * p.b) p ∧
    (⟨T.p.z - T.r.x, T.p.y + T.q.x, T.n - T.p.x + T.q.y - T.r.z, T.q.z + T.r.y⟩ : Q) = Q.sc (h * p.c) p ∧
    (⟨T.q.x - T.p.y, T.p.z + T.r.x, T.q.z + T.r.y, T.n - T.p.x - T.q.y + T.r.z⟩ : Q) = Q.sc (h * p.d) p := by
  have G0 : G ≠ 0 := by have := L.s; omega
  have l := L.e
  obtain ⟨⟨px, py, pz⟩, ⟨qx, qy, qz⟩, ⟨rx, ry, rz⟩, n⟩ := T
  obtain ⟨a, b, c, d⟩ := p
  simp only [Tn.ofQ, Tn.sc, V3.sc, Q.size, Tn.mk.injEq, V3.mk.injEq] at l
  obtain ⟨⟨l1, l2, l3⟩, ⟨l4, l5, l6⟩, ⟨l7, l8, l9⟩, l0⟩ := l
  have f : ∀ {x u v : Int}, G * x = 4 * (u * v) → x = h * u * v := fun {x u v} hx => by
    refine Int.eq_of_mul_eq_mul_left G0 ?_
    rw [hx, ← e]; grind
  simp only [Q.sc, Q.mk.injEq]
  clear L
  refine ⟨⟨f ?_, f ?_, f ?_, f ?_⟩, ⟨f ?_, f ?_, f ?_, f ?_⟩, ⟨f ?_, f ?_, f ?_, f ?_⟩, ⟨f ?_, f ?_, f ?_, f ?_⟩⟩ <;>
    (simp only [Int.mul_add, Int.mul_sub, ← l1, ← l2, ← l3, ← l4, ← l5, ← l6, ← l7, ← l8, ← l9, ← l0]; clear f l1 l2 l3 l4 l5 l6 l7 l8 l9 l0 e; grind)
theorem lcK_if {c : Bool} {x : D} {ys : List D} : lcK (.ok (if c then some x else none)) (.ok ys) = .ok (if c then x :: ys else ys) := by cases c <;> rfl
theorem bb1 {a b c d : Int} {k : Nat} (h1 : a.natAbs < 2 ^ k) (h2 : b.natAbs < 2 ^ k) (h3 : c.natAbs < 2 ^ k) (h4 : d.natAbs < 2 ^ k) : (a + b + c + d).natAbs < 2 ^ (k + 3) := by
  rw [Nat.pow_add]; omega
theorem bb2 {a b c d : Int} {k : Nat} (h1 : a.natAbs < 2 ^ k) (h2 : b.natAbs < 2 ^ k) (h3 : c.natAbs < 2 ^ k) (h4 : d.natAbs < 2 ^ k) : (a + b - c - d).natAbs < 2 ^ (k + 3) := by
  rw [Nat.pow_add]; omega
theorem bb3 {a b c d : Int} {k : Nat} (h1 : a.natAbs < 2 ^ k) (h2 : b.natAbs < 2 ^ k) (h3 : c.natAbs < 2 ^ k) (h4 : d.natAbs < 2 ^ k) : (a - b + c - d).natAbs < 2 ^ (k + 3) := by
  rw [Nat.pow_add]; omega
theorem bb4 {a b c d : Int} {k : Nat} (h1 : a.natAbs < 2 ^ k) (h2 : b.natAbs < 2 ^ k) (h3 : c.natAbs < 2 ^ k) (h4 : d.natAbs < 2 ^ k) : (a - b - c + d).natAbs < 2 ^ (k + 3) := by
  rw [Nat.pow_add]; omega
theorem bb5 {a b : Int} {k : Nat} (h1 : a.natAbs < 2 ^ k) (h2 : b.natAbs < 2 ^ k) : (a - b).natAbs < 2 ^ (k + 3) := by
  rw [Nat.pow_add]; omega
theorem bb6 {a b : Int} {k : Nat} (h1 : a.natAbs < 2 ^ k) (h2 : b.natAbs < 2 ^ k) : (a + b).natAbs < 2 ^ (k + 3) := by
  rw [Nat.pow_add]; omega
local macro_rules | `(tactic| walk_at "ev") => `(tactic| simp -implicitDefEqProofs (disch := walk_at "ok") only [exL_nil, exL_cons, next_nx, next_rt, next_ct, next_ex, S_asg, S_set, S_put, S_app, S_ite, S_for, S_whl, S_ret, S_cont, S_pass, S_frz, S_raise, put_own, putK_i, app_own, frz_nil, frz_cons, frzK_own, frzK_val, E_var, E_con, E_glob, E_tup, E_lst, E_rep, E_bop, E_neg, E_not, E_and, E_or, E_cmp, E_ix, E_sl, E_bi, E_isi, E_call, E_lc, lcO_ok, L_nil, L_cons, Bs_nil, Bs_cons, bor_var, bor_con, bor_glob, bor_tup, bor_lst, bor_rep, bor_bop, bor_neg, bor_not, bor_and, bor_or, bor_cmp, bor_ix, bor_sl, bor_sl3, bor_inr, bor_call0, bor_bi, bor_isi, bor_call, bor_lc, lookE_val, lookB_val, lookB_own, valM_ok, valM_stuck, valM_ex, d_val, d_own, negD_i, notD_b, andD_t, andD_f, orD_t, orD_f, andD_b, orD_b, add_ii, sub_ii, mul_ii', fdiv_ii', mod_ii', pow10_9, pow10_10, pow10_12, pow10_15, pow10_20, pow10_30, pow10_60, pow10_120, add_ll, add_tt, lt_ii, le_ii, gt_ii, ge_ii, eq_ii, ne_ii, isN_d, notN_d, isB_bb, notB_bb, ix_l, ix_t, ixO_some, at_0, at_1, at_2, at_3, iteD_t, iteD_f, iteD_b, ret_var, retV_b, end_rt, end_nx, end_ex, ret_con, ret_glob, ret_tup, ret_lst, ret_rep, ret_bop, ret_neg, ret_not, ret_and, ret_or, ret_cmp, ret_ix, ret_sl, ret_sl3, ret_inr, ret_call0, safe_ok, inr_t, inr_f, S_tri, tri_ok, tri_ex, su_nil, su_cons, suD_is, suD_con, suD_two, suD_lst, suD_cat, suCat_l, E_sl3, E_inr, E_call0, mul_ti, List.map_cons, List.map_nil, ret_bi, ret_isi, ret_call, ret_lc, isi_ii, isi_ib, isi_it, isi_il, isi_in, isi_bi, isi_bb, isi_tt, isi_tl, isi_ti, isi_tn, isi_ll, isi_lt, bi_abs, bi_len_l, bi_len_t, bi_int_i, bi_int_b, bi_list_l, bi_list_t, bi_tuple_l, bi_tuple_t, bi_sum, bi_all, sumO_some, allO_some, bi_min2, bi_max2, phi_0, phi_1, phi_2, phi_s, bindT_nm, bindT_tp, bindT_tl, bindTs_nil, bindTs_cons, it_seq, it_zip_t, it_zip_l, it_rev, itL, itT, turn_0, turn_t, turn_f, wipe_nil, wipe_cons, forF_eq, whlC_eq, whlF_eq, lcF_eq, bind_ok, bind_stuck, bind_ex, List.set_cons_zero, List.set_cons_succ, List.getElem?_cons_zero, List.getElem?_cons_succ, if_true, if_false, Bool.false_eq_true, part_0, part_1, sl_l, sl_t, nonD, Bool.not_true, Bool.not_false, Bool.and_true, Bool.true_and, Bool.and_false, Bool.false_and, Bool.or_true, Bool.true_or, Bool.or_false, Bool.false_or, Int.cast_ofNat_Int, beq_self_eq_true, decide_true, decide_false, Int.neg_neg, Int.zero_add, Int.add_zero, line_lt, small_i, it_rng1, it_rng2, eq_self, for_nil, for_cons, forK_nx, forK_ct, forK_rt, lc_nil, lc_cons, lcK_some, lcK_none, rng_3, rng_4, run_whole, run_cell, run_near, vals_nil, vals_cons, vals_map, allI_nil, allI_cons, allI_map, allI_app, vals_app, run_divl, run_divt, run_ldivl, run_ldivt, run_euclid, ints_all, List.length_cons, List.length_nil, List.length_map, List.length_append, List.cons_append, List.nil_append, List.length_set, List.length_reverse, go_nx, go_ct, ret_ok, run_mirrored, app_ok, ix_q0, ix_q1, ix_q2, ix_q3, run_qsame, rng_0, rng_1, rng_2, turn_b, Q.vs_len, isi_q, len_q, seq_q, ne_q, eq_q, ne_q0, ne_li, eq_li, ix_v0, ix_v1, ix_v2, ix_m0, ix_m1, ix_m2, ix_n0, ix_n1, seq_v, seq_m, isi_v, isi_m, isi_n, len_v, len_m, len_n, list_v, bind_v, bind_m, bind_n, bind_q, add_vv, add_tv, set4_0, set4_1, set4_2, set4_3, set3_0, set3_1, set3_2, all_3, all_4, bools_3, bools_4, run_ldivq, run_divq, sum3, sum4, eq_nn, zip_v, tup_v, ne_rows, lcK_if, reduceIte, Nat.reduceAdd, Int.reduceBEq, Int.reduceToNat, Int.reduceMul, Int.reduceAdd, Int.reduceSub, Int.reduceLT, Int.reduceLE, Int.reduceFMod, Int.reduceFDiv, Int.reduceNeg])
theorem run_quad_of {p : Q} {T : Tn} {G : Int} {k : Nat} (L : Lw (Tn.ofQ p) T G) (hG : G = (Tn.ofQ p).g) (g1 : p.g = 1) (l0 : 0 < p.lead) (b : T.ok k) (hk : k ≤ 4000) : d_quad_of [tn T] = .ok (.val (q4 p)) := by
  have hz : p ≠ Q.zero := fun e => by
    rw [e] at l0
    exact absurd l0 (by decide)
  obtain ⟨h, e⟩ : ∃ h : Int, G * h = 4 := by
    have h4 := Int.ofNat_dvd.mpr (four_of g1)
    obtain ⟨h, hh⟩ := h4
    exact ⟨h, by rw [hG]; exact hh.symm⟩
  have hh : h ≠ 0 := fun z => by rw [z, Int.mul_zero] at e; omega
  obtain ⟨w1, w2, w3, w4⟩ := rows_of L e
  obtain ⟨u, r, hu, hf⟩ := first_of hz hh
  have ob : ∀ {x y z t : Int}, x.natAbs < 2 ^ (k + 3) → y.natAbs < 2 ^ (k + 3) → z.natAbs < 2 ^ (k + 3) → t.natAbs < 2 ^ (k + 3) → (⟨x, y, z, t⟩ : Q).ok (k + 3) := fun h1 h2 h3 h4 => ⟨h1, h2, h3, h4⟩
  obtain ⟨⟨p1, p2, p3⟩, ⟨q1, q2, q3⟩, ⟨r1, r2, r3⟩, n1⟩ := id b
  have pk : 2 ^ (k + 3) = 8 * 2 ^ k := by rw [Nat.pow_add, Nat.mul_comm]
  have o1 : (Q.sc (h * p.a) p).ok (k + 3) := by rw [← w1]; exact ob (bb1 n1 p1 q2 r3) (bb5 r2 q3) (bb5 p3 r1) (bb5 q1 p2)
  have o2 : (Q.sc (h * p.b) p).ok (k + 3) := by rw [← w2]; exact ob (bb5 r2 q3) (bb2 n1 p1 q2 r3) (bb6 p2 q1) (bb6 p3 r1)
  have o3 : (Q.sc (h * p.c) p).ok (k + 3) := by rw [← w3]; exact ob (bb5 p3 r1) (bb6 p2 q1) (bb3 n1 p1 q2 r3) (bb6 q3 r2)
  have o4 : (Q.sc (h * p.d) p).ok (k + 3) := by rw [← w4]; exact ob (bb5 q1 p2) (bb6 p3 r1) (bb6 q3 r2) (bb4 n1 p1 q2 r3)
  have hall : ∀ x ∈ [Q.sc (h * p.a) p, Q.sc (h * p.b) p, Q.sc (h * p.c) p, Q.sc (h * p.d) p], x.ok (k + 3) := fun x hx => by
    simp only [List.mem_cons, List.not_mem_nil, or_false] at hx
    rcases hx with rfl | rfl | rfl | rfl <;> assumption
  have hm : Q.sc u p ∈ [Q.sc (h * p.a) p, Q.sc (h * p.b) p, Q.sc (h * p.c) p, Q.sc (h * p.d) p] := by
    have : Q.sc u p ∈ List.filter (fun x => decide (0 < x.size)) [Q.sc (h * p.a) p, Q.sc (h * p.b) p, Q.sc (h * p.c) p, Q.sc (h * p.d) p] := by rw [hf]; exact List.mem_cons_self
    exact (List.mem_filter.mp this).1
  have hz2 : Q.sc u p ≠ Q.zero := fun e => hz (Q.sc_inj hu (e.trans (by simp [Q.sc, Q.zero])))
  obtain ⟨p', s', f1, hp'⟩ := run_plain hz2 (hall _ hm) (by omega)
  obtain ⟨rfl, _⟩ := hp'.uniq (⟨rfl, hu, g1, l0⟩ : Pl (Q.sc u p) p u)
  refine o_quad_of ?_
  unfold b_quad_of
  have t1 : PyData.tuple [.int (T.n + T.p.x + T.q.y + T.r.z), .int (T.r.y - T.q.z), .int (T.p.z - T.r.x), .int (T.q.x - T.p.y)] = q4 (Q.sc (h * p'.a) p') := congrArg q4 w1
  have t2 : PyData.tuple [.int (T.r.y - T.q.z), .int (T.n + T.p.x - T.q.y - T.r.z), .int (T.p.y + T.q.x), .int (T.p.z + T.r.x)] = q4 (Q.sc (h * p'.b) p') := congrArg q4 w2
  have t3' : PyData.tuple [.int (T.p.z - T.r.x), .int (T.p.y + T.q.x), .int (T.n - T.p.x + T.q.y - T.r.z), .int (T.q.z + T.r.y)] = q4 (Q.sc (h * p'.c) p') := congrArg q4 w3
  have t4 : PyData.tuple [.int (T.q.x - T.p.y), .int (T.p.z + T.r.x), .int (T.q.z + T.r.y), .int (T.n - T.p.x - T.q.y + T.r.z)] = q4 (Q.sc (h * p'.d) p') := congrArg q4 w4
  have s1 := run_size o1 (by omega)
  have s2 := run_size o2 (by omega)
  have s3 := run_size o3 (by omega)
  have s4 := run_size o4 (by omega)
  have hfl : (if decide (0 < (Q.sc (h * p'.a) p').size) = true then q4 (Q.sc (h * p'.a) p') :: (if decide (0 < (Q.sc (h * p'.b) p').size) = true then q4 (Q.sc (h * p'.b) p') :: (if decide (0 < (Q.sc (h * p'.c) p').size) = true then q4 (Q.sc (h * p'.c) p') :: (if decide (0 < (Q.sc (h * p'.d) p').size) = true then [q4 (Q.sc (h * p'.d) p')] else []) else (if decide (0 < (Q.sc (h * p'.d) p').size) = true then [q4 (Q.sc (h * p'.d) p')] else [])) else (if decide (0 < (Q.sc (h * p'.c) p').size) = true then q4 (Q.sc (h * p'.c) p') :: (if decide (0 < (Q.sc (h * p'.d) p').size) = true then [q4 (Q.sc (h * p'.d) p')] else []) else (if decide (0 < (Q.sc (h * p'.d) p').size) = true then [q4 (Q.sc (h * p'.d) p')] else []))) else (if decide (0 < (Q.sc (h * p'.b) p').size) = true then q4 (Q.sc (h * p'.b) p') :: (if decide (0 < (Q.sc (h * p'.c) p').size) = true then q4 (Q.sc (h * p'.c) p') :: (if decide (0 < (Q.sc (h * p'.d) p').size) = true then [q4 (Q.sc (h * p'.d) p')] else []) else (if decide (0 < (Q.sc (h * p'.d) p').size) = true then [q4 (Q.sc (h * p'.d) p')] else [])) else (if decide (0 < (Q.sc (h * p'.c) p').size) = true then q4 (Q.sc (h * p'.c) p') :: (if decide (0 < (Q.sc (h * p'.d) p').size) = true then [q4 (Q.sc (h * p'.d) p')] else []) else (if decide (0 < (Q.sc (h * p'.d) p').size) = true then [q4 (Q.sc (h * p'.d) p')] else [])))) = q4 (Q.sc u p') :: r.map q4 := by
    rw [← List.map_cons, ← hf]
    simp only [List.filter_cons, List.filter_nil]
    generalize decide (0 < (Q.sc (h * p'.a) p').size) = c1
    generalize decide (0 < (Q.sc (h * p'.b) p').size) = c2
    generalize decide (0 < (Q.sc (h * p'.c) p').size) = c3
    generalize decide (0 < (Q.sc (h * p'.d) p').size) = c4
    cases c1 <;> cases c2 <;> cases c3 <;> cases c4 <;> rfl
  repeat (first | walk_at "ev" | rw [t1] | rw [t2] | rw [t3'] | rw [t4] | rw [s1] | rw [s2] | rw [s3] | rw [s4] | rw [hfl] | rw [f1])
end Lb
namespace Lb
open PySem Tg
def b_columns : List S :=
   [.asg (.nm 1) (.ix (.var 0) (.con (.int 0))),
    .ret (.lc (.tup [.ix (.ix (.var 1) (.con (.int 0))) (.var 2), .ix (.ix (.var 1) (.con (.int 1))) (.var 2), .ix (.ix (.var 1) (.con (.int 2))) (.var 2)]) (.nm 2) .rng [.con (.int 3)] [] [2])]
noncomputable def d_columns : List D → M B := runF (phi []) 1 3 b_columns
theorem o_columns {x0 : D} {r : M B} (h : endD (exL (phi []) b_columns [some (.val x0), none, none]) = r) : d_columns [x0] = r := run_of rfl rfl h
def b_back : List S :=
   [.ret (.tup [.bi .tuple [.call 0 [.var 0]], .ix (.var 0) (.con (.int 1))])]
noncomputable def d_back : List D → M B := runF (phi [d_columns]) 1 1 b_back
theorem o_back {x0 : D} {r : M B} (h : endD (exL (phi [d_columns]) b_back [some (.val x0)]) = r) : d_back [x0] = r := run_of rfl rfl h
def b_after : List S :=
   [.asg (.nm 2) (.call 0 [.var 1]),
    .asg (.nm 3) (.lc (.bi .tuple [.lc (.call 1 [.var 4, .var 5]) (.nm 5) .seq [.var 2] [] [5]]) (.nm 4) .seq [.ix (.var 0) (.con (.int 0))] [] [4]),
    .ret (.call 2 [.bi .tuple [.var 3], .bop .mul (.ix (.var 0) (.con (.int 1))) (.ix (.var 1) (.con (.int 1)))])]
noncomputable def d_after : List D → M B := runF (phi [d_columns, d_times, d_lowest]) 2 6 b_after
theorem o_after {x0 x1 : D} {r : M B} (h : endD (exL (phi [d_columns, d_times, d_lowest]) b_after [some (.val x0), some (.val x1), none, none, none, none]) = r) : d_after [x0, x1] = r := run_of rfl rfl h
def b_ldiv2 : List S :=
   [.asg (.nm 1) (.con (.int 0)),
    .for (.nm 2) .seq [.var 0] [.asg (.nm 3) (.bi .abs [.var 2]), .whl (.cmp .ne (.var 3) (.con (.int 0))) [.asg (.nm 4) (.bop .mod (.var 1) (.var 3)), .asg (.nm 1) (.var 3), .asg (.nm 3) (.var 4)]],
    .ret (.var 1)]
noncomputable def d_ldiv2 : List D → M B := runF (phi []) 1 5 b_ldiv2
theorem o_ldiv2 {x0 : D} {r : M B} (h : endD (exL (phi []) b_ldiv2 [some (.val x0), none, none, none, none]) = r) : d_ldiv2 [x0] = r := run_of rfl rfl h
def b_ldot : List S :=
   [.ret (.bop .add (.bop .add (.bop .mul (.ix (.var 0) (.con (.int 0))) (.ix (.var 1) (.con (.int 0)))) (.bop .mul (.ix (.var 0) (.con (.int 1))) (.ix (.var 1) (.con (.int 1))))) (.bop .mul (.ix (.var 0) (.con (.int 2))) (.ix (.var 1) (.con (.int 2)))))]
noncomputable def d_ldot : List D → M B := runF (phi []) 2 2 b_ldot
theorem o_ldot {x0 x1 : D} {r : M B} (h : endD (exL (phi []) b_ldot [some (.val x0), some (.val x1)]) = r) : d_ldot [x0, x1] = r := run_of rfl rfl h
def b_lplain : List S :=
   [.asg (.nm 1) (.call 0 [.var 0]),
    .for (.nm 2) .rev [.var 0] [.ite (.cmp .gt (.var 2) (.con (.int 0))) [.asg (.nm 1) (.bi .abs [.var 1])] [], .ite (.cmp .lt (.var 2) (.con (.int 0))) [.asg (.nm 1) (.bop .sub (.con (.int 0)) (.bi .abs [.var 1]))] []],
    .ret (.bi .tuple [.lc (.bop .fdiv (.var 2) (.var 1)) (.nm 2) .seq [.var 0] [] [2]])]
noncomputable def d_lplain : List D → M B := runF (phi [d_ldivisor]) 1 3 b_lplain
theorem o_lplain {x0 : D} {r : M B} (h : endD (exL (phi [d_ldivisor]) b_lplain [some (.val x0), none, none]) = r) : d_lplain [x0] = r := run_of rfl rfl h
def b_lnumber : List S :=
   [.ret (.and (.isi (.var 0) .int) (.not (.isi (.var 0) .bool)))]
noncomputable def d_lnumber : List D → M B := runF (phi []) 1 1 b_lnumber
theorem o_lnumber {x0 : D} {r : M B} (h : endD (exL (phi []) b_lnumber [some (.val x0)]) = r) : d_lnumber [x0] = r := run_of rfl rfl h
end Lb
namespace Lb
open PySem Tg
local macro_rules | `(tactic| walk_at "bd") => `(tactic| first | assumption | exact near_b3 | exact near_b6 | exact near_b9 | exact near_b999 | exact near_b1000 | exact near_b12 | exact near_b15 | exact near_b20 | exact near_b30 | exact near_b60 | exact bd_lit rfl (by decide) | (refine' bd_add ?h1 ?h2; (case h1 => walk_at "bd"); (case h2 => walk_at "bd")) | (refine' bd_sub ?h1 ?h2; (case h1 => walk_at "bd"); (case h2 => walk_at "bd")) | (refine' bd_mul ?h1 ?h2; (case h1 => walk_at "bd"); (case h2 => walk_at "bd")) | (refine' bd_neg ?_; walk_at "bd"))
local macro_rules | `(tactic| walk_at "ok") => `(tactic| first | assumption | decide | (refine line_lt ?_; (first | omega | (simp only [List.length_map, List.length_set, List.length_append, List.length_cons, List.length_nil, List.length_reverse]; omega))) | (refine' mulOk_of ?h1 ?h2 ?h3; (case h1 => walk_at "bd"); (case h2 => walk_at "bd"); (case h3 => first | decide | omega | (simp only [Nat.max_def]; first | decide | omega))) | (refine divOk_of ?_ ?_ <;> first | assumption | decide +kernel | omega) | omega | (simp -implicitDefEqProofs only [allI_nil, allI_cons, allI_map, allI_app, Bool.and_self, Bool.and_true]; done))
def Tn.cx (T : Tn) : V3 := ⟨T.p.x, T.q.x, T.r.x⟩
def Tn.cy (T : Tn) : V3 := ⟨T.p.y, T.q.y, T.r.y⟩
def Tn.cz (T : Tn) : V3 := ⟨T.p.z, T.q.z, T.r.z⟩
def Tn.tr (T : Tn) : Tn := ⟨T.cx, T.cy, T.cz, T.n⟩
local macro_rules | `(tactic| walk_at "ev") => `(tactic| simp -implicitDefEqProofs (disch := walk_at "ok") only [exL_nil, exL_cons, next_nx, next_rt, next_ct, next_ex, S_asg, S_set, S_put, S_app, S_ite, S_for, S_whl, S_ret, S_cont, S_pass, S_frz, S_raise, put_own, putK_i, app_own, frz_nil, frz_cons, frzK_own, frzK_val, E_var, E_con, E_glob, E_tup, E_lst, E_rep, E_bop, E_neg, E_not, E_and, E_or, E_cmp, E_ix, E_sl, E_bi, E_isi, E_call, E_lc, lcO_ok, L_nil, L_cons, Bs_nil, Bs_cons, bor_var, bor_con, bor_glob, bor_tup, bor_lst, bor_rep, bor_bop, bor_neg, bor_not, bor_and, bor_or, bor_cmp, bor_ix, bor_sl, bor_sl3, bor_inr, bor_call0, bor_bi, bor_isi, bor_call, bor_lc, lookE_val, lookB_val, lookB_own, valM_ok, valM_stuck, valM_ex, d_val, d_own, negD_i, notD_b, andD_t, andD_f, orD_t, orD_f, andD_b, orD_b, add_ii, sub_ii, mul_ii', fdiv_ii', mod_ii', pow10_9, pow10_10, pow10_12, pow10_15, pow10_20, pow10_30, pow10_60, pow10_120, add_ll, add_tt, lt_ii, le_ii, gt_ii, ge_ii, eq_ii, ne_ii, isN_d, notN_d, isB_bb, notB_bb, ix_l, ix_t, ixO_some, at_0, at_1, at_2, at_3, iteD_t, iteD_f, iteD_b, ret_var, retV_b, end_rt, end_nx, end_ex, ret_con, ret_glob, ret_tup, ret_lst, ret_rep, ret_bop, ret_neg, ret_not, ret_and, ret_or, ret_cmp, ret_ix, ret_sl, ret_sl3, ret_inr, ret_call0, safe_ok, inr_t, inr_f, S_tri, tri_ok, tri_ex, su_nil, su_cons, suD_is, suD_con, suD_two, suD_lst, suD_cat, suCat_l, E_sl3, E_inr, E_call0, mul_ti, List.map_cons, List.map_nil, ret_bi, ret_isi, ret_call, ret_lc, isi_ii, isi_ib, isi_it, isi_il, isi_in, isi_bi, isi_bb, isi_tt, isi_tl, isi_ti, isi_tn, isi_ll, isi_lt, bi_abs, bi_len_l, bi_len_t, bi_int_i, bi_int_b, bi_list_l, bi_list_t, bi_tuple_l, bi_tuple_t, bi_sum, bi_all, sumO_some, allO_some, bi_min2, bi_max2, phi_0, phi_1, phi_2, phi_s, bindT_nm, bindT_tp, bindT_tl, bindTs_nil, bindTs_cons, it_seq, it_zip_t, it_zip_l, it_rev, itL, itT, turn_0, turn_t, turn_f, wipe_nil, wipe_cons, forF_eq, whlC_eq, whlF_eq, lcF_eq, bind_ok, bind_stuck, bind_ex, List.set_cons_zero, List.set_cons_succ, List.getElem?_cons_zero, List.getElem?_cons_succ, if_true, if_false, Bool.false_eq_true, part_0, part_1, sl_l, sl_t, nonD, Bool.not_true, Bool.not_false, Bool.and_true, Bool.true_and, Bool.and_false, Bool.false_and, Bool.or_true, Bool.true_or, Bool.or_false, Bool.false_or, Int.cast_ofNat_Int, beq_self_eq_true, decide_true, decide_false, Int.neg_neg, Int.zero_add, Int.add_zero, line_lt, small_i, it_rng1, it_rng2, eq_self, for_nil, for_cons, forK_nx, forK_ct, forK_rt, lc_nil, lc_cons, lcK_some, lcK_none, rng_3, rng_4, run_whole, run_cell, run_near, vals_nil, vals_cons, vals_map, allI_nil, allI_cons, allI_map, allI_app, vals_app, run_divl, run_divt, run_ldivl, run_ldivt, run_euclid, ints_all, List.length_cons, List.length_nil, List.length_map, List.length_append, List.cons_append, List.nil_append, List.length_set, List.length_reverse, go_nx, go_ct, ret_ok, run_mirrored, app_ok, ix_q0, ix_q1, ix_q2, ix_q3, run_qsame, rng_0, rng_1, rng_2, turn_b, Q.vs_len, isi_q, len_q, seq_q, ne_q, eq_q, ne_q0, ne_li, eq_li, ix_v0, ix_v1, ix_v2, ix_m0, ix_m1, ix_m2, ix_n0, ix_n1, seq_v, seq_m, isi_v, isi_m, isi_n, len_v, len_m, len_n, list_v, bind_v, bind_m, bind_n, bind_q, add_vv, add_tv, set4_0, set4_1, set4_2, set4_3, set3_0, set3_1, set3_2, all_3, all_4, bools_3, bools_4, run_ldivq, run_divq, sum3, sum4, eq_nn, zip_v, tup_v, ne_rows, lcK_if, reduceIte, Nat.reduceAdd, Int.reduceBEq, Int.reduceToNat, Int.reduceMul, Int.reduceAdd, Int.reduceSub, Int.reduceLT, Int.reduceLE, Int.reduceFMod, Int.reduceFDiv, Int.reduceNeg])
theorem run_columns {T : Tn} : d_columns [tn T] = .ok (.own [t3 T.cx, t3 T.cy, t3 T.cz]) := by
  refine o_columns ?_
  unfold b_columns
  walk_at "ev"
  rfl
local macro_rules | `(tactic| walk_at "ev") => `(tactic| simp -implicitDefEqProofs (disch := walk_at "ok") only [exL_nil, exL_cons, next_nx, next_rt, next_ct, next_ex, S_asg, S_set, S_put, S_app, S_ite, S_for, S_whl, S_ret, S_cont, S_pass, S_frz, S_raise, put_own, putK_i, app_own, frz_nil, frz_cons, frzK_own, frzK_val, E_var, E_con, E_glob, E_tup, E_lst, E_rep, E_bop, E_neg, E_not, E_and, E_or, E_cmp, E_ix, E_sl, E_bi, E_isi, E_call, E_lc, lcO_ok, L_nil, L_cons, Bs_nil, Bs_cons, bor_var, bor_con, bor_glob, bor_tup, bor_lst, bor_rep, bor_bop, bor_neg, bor_not, bor_and, bor_or, bor_cmp, bor_ix, bor_sl, bor_sl3, bor_inr, bor_call0, bor_bi, bor_isi, bor_call, bor_lc, lookE_val, lookB_val, lookB_own, valM_ok, valM_stuck, valM_ex, d_val, d_own, negD_i, notD_b, andD_t, andD_f, orD_t, orD_f, andD_b, orD_b, add_ii, sub_ii, mul_ii', fdiv_ii', mod_ii', pow10_9, pow10_10, pow10_12, pow10_15, pow10_20, pow10_30, pow10_60, pow10_120, add_ll, add_tt, lt_ii, le_ii, gt_ii, ge_ii, eq_ii, ne_ii, isN_d, notN_d, isB_bb, notB_bb, ix_l, ix_t, ixO_some, at_0, at_1, at_2, at_3, iteD_t, iteD_f, iteD_b, ret_var, retV_b, end_rt, end_nx, end_ex, ret_con, ret_glob, ret_tup, ret_lst, ret_rep, ret_bop, ret_neg, ret_not, ret_and, ret_or, ret_cmp, ret_ix, ret_sl, ret_sl3, ret_inr, ret_call0, safe_ok, inr_t, inr_f, S_tri, tri_ok, tri_ex, su_nil, su_cons, suD_is, suD_con, suD_two, suD_lst, suD_cat, suCat_l, E_sl3, E_inr, E_call0, mul_ti, List.map_cons, List.map_nil, ret_bi, ret_isi, ret_call, ret_lc, isi_ii, isi_ib, isi_it, isi_il, isi_in, isi_bi, isi_bb, isi_tt, isi_tl, isi_ti, isi_tn, isi_ll, isi_lt, bi_abs, bi_len_l, bi_len_t, bi_int_i, bi_int_b, bi_list_l, bi_list_t, bi_tuple_l, bi_tuple_t, bi_sum, bi_all, sumO_some, allO_some, bi_min2, bi_max2, phi_0, phi_1, phi_2, phi_s, bindT_nm, bindT_tp, bindT_tl, bindTs_nil, bindTs_cons, it_seq, it_zip_t, it_zip_l, it_rev, itL, itT, turn_0, turn_t, turn_f, wipe_nil, wipe_cons, forF_eq, whlC_eq, whlF_eq, lcF_eq, bind_ok, bind_stuck, bind_ex, List.set_cons_zero, List.set_cons_succ, List.getElem?_cons_zero, List.getElem?_cons_succ, if_true, if_false, Bool.false_eq_true, part_0, part_1, sl_l, sl_t, nonD, Bool.not_true, Bool.not_false, Bool.and_true, Bool.true_and, Bool.and_false, Bool.false_and, Bool.or_true, Bool.true_or, Bool.or_false, Bool.false_or, Int.cast_ofNat_Int, beq_self_eq_true, decide_true, decide_false, Int.neg_neg, Int.zero_add, Int.add_zero, line_lt, small_i, it_rng1, it_rng2, eq_self, for_nil, for_cons, forK_nx, forK_ct, forK_rt, lc_nil, lc_cons, lcK_some, lcK_none, rng_3, rng_4, run_whole, run_cell, run_near, vals_nil, vals_cons, vals_map, allI_nil, allI_cons, allI_map, allI_app, vals_app, run_divl, run_divt, run_ldivl, run_ldivt, run_euclid, ints_all, List.length_cons, List.length_nil, List.length_map, List.length_append, List.cons_append, List.nil_append, List.length_set, List.length_reverse, go_nx, go_ct, ret_ok, run_mirrored, app_ok, ix_q0, ix_q1, ix_q2, ix_q3, run_qsame, rng_0, rng_1, rng_2, turn_b, Q.vs_len, isi_q, len_q, seq_q, ne_q, eq_q, ne_q0, ne_li, eq_li, ix_v0, ix_v1, ix_v2, ix_m0, ix_m1, ix_m2, ix_n0, ix_n1, seq_v, seq_m, isi_v, isi_m, isi_n, len_v, len_m, len_n, list_v, bind_v, bind_m, bind_n, bind_q, add_vv, add_tv, set4_0, set4_1, set4_2, set4_3, set3_0, set3_1, set3_2, all_3, all_4, bools_3, bools_4, run_ldivq, run_divq, sum3, sum4, eq_nn, zip_v, tup_v, ne_rows, lcK_if, run_columns, reduceIte, Nat.reduceAdd, Int.reduceBEq, Int.reduceToNat, Int.reduceMul, Int.reduceAdd, Int.reduceSub, Int.reduceLT, Int.reduceLE, Int.reduceFMod, Int.reduceFDiv, Int.reduceNeg])
theorem run_back {T : Tn} : d_back [tn T] = .ok (.val (tn T.tr)) := by
  refine o_back ?_
  unfold b_back
  walk_at "ev"
  rfl
theorem Tn.ok_tr {T : Tn} {k : Nat} (h : T.ok k) : T.tr.ok k := ⟨⟨h.1.1, h.2.1.1, h.2.2.1.1⟩, ⟨h.1.2.1, h.2.1.2.1, h.2.2.1.2.1⟩, ⟨h.1.2.2, h.2.1.2.2, h.2.2.1.2.2⟩, h.2.2.2⟩
local macro_rules | `(tactic| walk_at "ev") => `(tactic| simp -implicitDefEqProofs (disch := walk_at "ok") only [exL_nil, exL_cons, next_nx, next_rt, next_ct, next_ex, S_asg, S_set, S_put, S_app, S_ite, S_for, S_whl, S_ret, S_cont, S_pass, S_frz, S_raise, put_own, putK_i, app_own, frz_nil, frz_cons, frzK_own, frzK_val, E_var, E_con, E_glob, E_tup, E_lst, E_rep, E_bop, E_neg, E_not, E_and, E_or, E_cmp, E_ix, E_sl, E_bi, E_isi, E_call, E_lc, lcO_ok, L_nil, L_cons, Bs_nil, Bs_cons, bor_var, bor_con, bor_glob, bor_tup, bor_lst, bor_rep, bor_bop, bor_neg, bor_not, bor_and, bor_or, bor_cmp, bor_ix, bor_sl, bor_sl3, bor_inr, bor_call0, bor_bi, bor_isi, bor_call, bor_lc, lookE_val, lookB_val, lookB_own, valM_ok, valM_stuck, valM_ex, d_val, d_own, negD_i, notD_b, andD_t, andD_f, orD_t, orD_f, andD_b, orD_b, add_ii, sub_ii, mul_ii', fdiv_ii', mod_ii', pow10_9, pow10_10, pow10_12, pow10_15, pow10_20, pow10_30, pow10_60, pow10_120, add_ll, add_tt, lt_ii, le_ii, gt_ii, ge_ii, eq_ii, ne_ii, isN_d, notN_d, isB_bb, notB_bb, ix_l, ix_t, ixO_some, at_0, at_1, at_2, at_3, iteD_t, iteD_f, iteD_b, ret_var, retV_b, end_rt, end_nx, end_ex, ret_con, ret_glob, ret_tup, ret_lst, ret_rep, ret_bop, ret_neg, ret_not, ret_and, ret_or, ret_cmp, ret_ix, ret_sl, ret_sl3, ret_inr, ret_call0, safe_ok, inr_t, inr_f, S_tri, tri_ok, tri_ex, su_nil, su_cons, suD_is, suD_con, suD_two, suD_lst, suD_cat, suCat_l, E_sl3, E_inr, E_call0, mul_ti, List.map_cons, List.map_nil, ret_bi, ret_isi, ret_call, ret_lc, isi_ii, isi_ib, isi_it, isi_il, isi_in, isi_bi, isi_bb, isi_tt, isi_tl, isi_ti, isi_tn, isi_ll, isi_lt, bi_abs, bi_len_l, bi_len_t, bi_int_i, bi_int_b, bi_list_l, bi_list_t, bi_tuple_l, bi_tuple_t, bi_sum, bi_all, sumO_some, allO_some, bi_min2, bi_max2, phi_0, phi_1, phi_2, phi_s, bindT_nm, bindT_tp, bindT_tl, bindTs_nil, bindTs_cons, it_seq, it_zip_t, it_zip_l, it_rev, itL, itT, turn_0, turn_t, turn_f, wipe_nil, wipe_cons, forF_eq, whlC_eq, whlF_eq, lcF_eq, bind_ok, bind_stuck, bind_ex, List.set_cons_zero, List.set_cons_succ, List.getElem?_cons_zero, List.getElem?_cons_succ, if_true, if_false, Bool.false_eq_true, part_0, part_1, sl_l, sl_t, nonD, Bool.not_true, Bool.not_false, Bool.and_true, Bool.true_and, Bool.and_false, Bool.false_and, Bool.or_true, Bool.true_or, Bool.or_false, Bool.false_or, Int.cast_ofNat_Int, beq_self_eq_true, decide_true, decide_false, Int.neg_neg, Int.zero_add, Int.add_zero, line_lt, small_i, it_rng1, it_rng2, eq_self, for_nil, for_cons, forK_nx, forK_ct, forK_rt, lc_nil, lc_cons, lcK_some, lcK_none, rng_3, rng_4, run_whole, run_cell, run_near, vals_nil, vals_cons, vals_map, allI_nil, allI_cons, allI_map, allI_app, vals_app, run_divl, run_divt, run_ldivl, run_ldivt, run_euclid, ints_all, List.length_cons, List.length_nil, List.length_map, List.length_append, List.cons_append, List.nil_append, List.length_set, List.length_reverse, go_nx, go_ct, ret_ok, run_mirrored, app_ok, ix_q0, ix_q1, ix_q2, ix_q3, run_qsame, rng_0, rng_1, rng_2, turn_b, Q.vs_len, isi_q, len_q, seq_q, ne_q, eq_q, ne_q0, ne_li, eq_li, ix_v0, ix_v1, ix_v2, ix_m0, ix_m1, ix_m2, ix_n0, ix_n1, seq_v, seq_m, isi_v, isi_m, isi_n, len_v, len_m, len_n, list_v, bind_v, bind_m, bind_n, bind_q, add_vv, add_tv, set4_0, set4_1, set4_2, set4_3, set3_0, set3_1, set3_2, all_3, all_4, bools_3, bools_4, run_ldivq, run_divq, sum3, sum4, eq_nn, zip_v, tup_v, ne_rows, lcK_if, run_columns, run_back, reduceIte, Nat.reduceAdd, Int.reduceBEq, Int.reduceToNat, Int.reduceMul, Int.reduceAdd, Int.reduceSub, Int.reduceLT, Int.reduceLE, Int.reduceFMod, Int.reduceFDiv, Int.reduceNeg])
theorem run_times {v w : V3} {k m : Nat} (h : v.ok k) (b : w.ok m) (hl : k + m ≤ 900000) : d_times [t3 v, t3 w] = .ok (.val (.int (v.dot w))) := by
  obtain ⟨h1, h2, h3⟩ := h
  obtain ⟨b1, b2, b3⟩ := b
  refine o_times ?_
  unfold b_times
  walk_at "ev"
  rfl
theorem run_ldot {v w : V3} {k m : Nat} (h : v.ok k) (b : w.ok m) (hl : k + m ≤ 900000) : d_ldot [t3 v, t3 w] = .ok (.val (.int (v.dot w))) := by
  obtain ⟨h1, h2, h3⟩ := h
  obtain ⟨b1, b2, b3⟩ := b
  refine o_ldot ?_
  unfold b_ldot
  walk_at "ev"
  rfl
def Tn.mul (S T : Tn) : Tn := ⟨⟨S.p.dot T.cx, S.p.dot T.cy, S.p.dot T.cz⟩, ⟨S.q.dot T.cx, S.q.dot T.cy, S.q.dot T.cz⟩, ⟨S.r.dot T.cx, S.r.dot T.cy, S.r.dot T.cz⟩, S.n * T.n⟩
theorem Tn.ok_mul {S T : Tn} {k m : Nat} (h : S.ok k) (b : T.ok m) : (S.mul T).ok (k + m + 2) := by
  have c := Tn.ok_tr b
  exact ⟨⟨dot_bd h.1 c.1, dot_bd h.1 c.2.1, dot_bd h.1 c.2.2.1⟩, ⟨dot_bd h.2.1 c.1, dot_bd h.2.1 c.2.1, dot_bd h.2.1 c.2.2.1⟩, ⟨dot_bd h.2.2.1 c.1, dot_bd h.2.2.1 c.2.1, dot_bd h.2.2.1 c.2.2.1⟩, bd_mono (bd_mul h.2.2.2 b.2.2.2) (by omega)⟩
theorem run_after {S T : Tn} {k m : Nat} (hs : 0 < S.n) (ht : 0 < T.n) (h : S.ok k) (b : T.ok m) (hl : k + m ≤ 8990) : d_after [tn S, tn T] = .ok (.val (tn (S.mul T).low)) := by
  have c := Tn.ok_tr b
  have f := run_lowest (T := S.mul T) (Int.mul_pos hs ht) (Tn.ok_mul h b).2.2.2 (by omega)
  have t : ∀ {v w : V3}, v.ok k → w.ok m → d_times [t3 v, t3 w] = .ok (.val (.int (v.dot w))) := fun h b => run_times h b (by omega)
  have t1 := t h.1 c.1; have t2 := t h.1 c.2.1; have t3' := t h.1 c.2.2.1
  have t4 := t h.2.1 c.1; have t5 := t h.2.1 c.2.1; have t6 := t h.2.1 c.2.2.1
  have t7 := t h.2.2.1 c.1; have t8 := t h.2.2.1 c.2.1; have t9 := t h.2.2.1 c.2.2.1
  rw [show T.tr.p = T.cx from rfl] at t1 t4 t7
  rw [show T.tr.q = T.cy from rfl] at t2 t5 t8
  rw [show T.tr.r = T.cz from rfl] at t3' t6 t9
  have n1 := h.2.2.2
  have n2 := b.2.2.2
  refine o_after ?_
  unfold b_after
  repeat (first | walk_at "ev" | rw [t1] | rw [t2] | rw [t3'] | rw [t4] | rw [t5] | rw [t6] | rw [t7] | rw [t8] | rw [t9])
  rw [show d_lowest [PyData.tuple [.tuple [.int (S.p.dot T.cx), .int (S.p.dot T.cy), .int (S.p.dot T.cz)], .tuple [.int (S.q.dot T.cx), .int (S.q.dot T.cy), .int (S.q.dot T.cz)], .tuple [.int (S.r.dot T.cx), .int (S.r.dot T.cy), .int (S.r.dot T.cz)]], .int (S.n * T.n)] = _ from f]
  walk_at "ev"
theorem Tn.mul_ofQ (p q : Q) : (Tn.ofQ p).mul (Tn.ofQ q) = Tn.ofQ (p.mul q) := by
  obtain ⟨a, b, c, d⟩ := p
  obtain ⟨e, f, g, h⟩ := q
  simp only [Tn.mul, Tn.ofQ, Q.mul, Q.size, V3.dot, Tn.cx, Tn.cy, Tn.cz, Tn.mk.injEq, V3.mk.injEq]
  refine ⟨⟨?_, ?_, ?_⟩, ⟨?_, ?_, ?_⟩, ⟨?_, ?_, ?_⟩, ?_⟩ <;> grind
theorem Tn.tr_ofQ (p : Q) : (Tn.ofQ p).tr = Tn.ofQ p.conj := by
  obtain ⟨a, b, c, d⟩ := p
  simp only [Tn.tr, Tn.ofQ, Q.conj, Q.size, Tn.cx, Tn.cy, Tn.cz, Tn.mk.injEq, V3.mk.injEq]
  refine ⟨⟨?_, ?_, ?_⟩, ⟨?_, ?_, ?_⟩, ⟨?_, ?_, ?_⟩, ?_⟩ <;> grind
theorem Tn.mul_sc (s t : Int) (S T : Tn) : (Tn.sc s S).mul (Tn.sc t T) = Tn.sc (s * t) (S.mul T) := by
  simp only [Tn.mul, Tn.sc, V3.sc, V3.dot, Tn.cx, Tn.cy, Tn.cz, Tn.mk.injEq, V3.mk.injEq]
  refine ⟨⟨?_, ?_, ?_⟩, ⟨?_, ?_, ?_⟩, ⟨?_, ?_, ?_⟩, ?_⟩ <;> grind
theorem Tn.tr_sc (s : Int) (T : Tn) : (Tn.sc s T).tr = Tn.sc s T.tr := rfl
theorem Tn.sc_sc (s t : Int) (T : Tn) : Tn.sc s (Tn.sc t T) = Tn.sc (s * t) T := by simp only [Tn.sc, V3.sc, Int.mul_assoc]
theorem Tn.all_tr {T : Tn} : gcdL T.tr.all = gcdL T.all := gcdL_same fun x => by
  simp only [Tn.all, Tn.tr, Tn.cx, Tn.cy, Tn.cz, List.mem_cons, List.not_mem_nil, or_false]
  constructor <;> (intro h; rcases h with rfl | rfl | rfl | rfl | rfl | rfl | rfl | rfl | rfl | rfl <;> simp)
theorem Q.mul_ne {p q : Q} (hp : p ≠ Q.zero) (hq : q ≠ Q.zero) : p.mul q ≠ Q.zero := fun e => by
  have h1 := Q.size_pos hp
  have h2 := Q.size_pos hq
  have h3 := Q.size_mul p q
  rw [e] at h3
  have := Int.mul_pos h1 h2
  have : Q.zero.size = 0 := by decide
  omega
theorem Q.conj_ne {p : Q} (hp : p ≠ Q.zero) : p.conj ≠ Q.zero := fun e => hp (by
  obtain ⟨a, b, c, d⟩ := p
  simp only [Q.conj, Q.zero, Q.mk.injEq] at e ⊢
  omega)
theorem Tn.of_tr {p : Q} (hp : p ≠ Q.zero) : (Tn.of p).tr = Tn.of p.conj := by
  have h := Tn.lw (T := Tn.ofQ p) (Q.size_pos hp)
  have h2 := Tn.lw (T := Tn.ofQ p.conj) (Q.size_pos (Q.conj_ne hp))
  have h3 : Lw (Tn.ofQ p.conj) (Tn.of p).tr (Tn.ofQ p).g := ⟨by
    rw [← Tn.tr_ofQ]
    conv => lhs; rw [h.e]
    exact Tn.tr_sc _ _, h.s, by rw [Tn.all_tr]; exact h.g⟩
  exact (h3.uniq h2).1
theorem Tn.low_sc {T L : Tn} {s : Int} (e : T = Tn.sc s L) (hs : 0 < s) (hn : 0 < L.n) : T.low = L.low := by
  have h2 := Tn.lw hn
  have hT : 0 < T.n := by rw [e]; exact Int.mul_pos hs hn
  have h3 : Lw T L.low (s * L.g) := ⟨by
    rw [e]
    conv => lhs; rw [h2.e]
    exact Tn.sc_sc _ _ _, Int.mul_pos hs h2.s, h2.g⟩
  exact ((Tn.lw hT).uniq h3).1
theorem Tn.of_n {p : Q} (hp : p ≠ Q.zero) : 0 < (Tn.of p).n := (IsT.of hp).u.n
theorem Tn.of_mul {p q : Q} (hp : p ≠ Q.zero) (hq : q ≠ Q.zero) : ((Tn.of p).mul (Tn.of q)).low = Tn.of (p.mul q) := by
  have h1 := Tn.lw (T := Tn.ofQ p) (Q.size_pos hp)
  have h2 := Tn.lw (T := Tn.ofQ q) (Q.size_pos hq)
  refine (Tn.low_sc (s := (Tn.ofQ p).g * (Tn.ofQ q).g) ?_ (Int.mul_pos h1.s h2.s) (Int.mul_pos (Tn.of_n hp) (Tn.of_n hq))).symm
  rw [← Tn.mul_ofQ]
  conv => lhs; rw [h1.e, h2.e]
  exact Tn.mul_sc _ _ _ _
theorem run_lnumber {n : Int} : d_lnumber [.int n] = .ok (.val (.bool true)) := by
  refine o_lnumber ?_
  unfold b_lnumber
  walk_at "ev"
def lpS (f x : Int) : Int := if 0 < x then (f.natAbs : Int) else if x < 0 then -(f.natAbs : Int) else f
def lpB : List S := [.ite (.cmp .gt (.var 2) (.con (.int 0))) [.asg (.nm 1) (.bi .abs [.var 1])] [], .ite (.cmp .lt (.var 2) (.con (.int 0))) [.asg (.nm 1) (.bop .sub (.con (.int 0)) (.bi .abs [.var 1]))] []]
local macro_rules | `(tactic| walk_at "ev") => `(tactic| simp -implicitDefEqProofs (disch := walk_at "ok") only [exL_nil, exL_cons, next_nx, next_rt, next_ct, next_ex, S_asg, S_set, S_put, S_app, S_ite, S_for, S_whl, S_ret, S_cont, S_pass, S_frz, S_raise, put_own, putK_i, app_own, frz_nil, frz_cons, frzK_own, frzK_val, E_var, E_con, E_glob, E_tup, E_lst, E_rep, E_bop, E_neg, E_not, E_and, E_or, E_cmp, E_ix, E_sl, E_bi, E_isi, E_call, E_lc, lcO_ok, L_nil, L_cons, Bs_nil, Bs_cons, bor_var, bor_con, bor_glob, bor_tup, bor_lst, bor_rep, bor_bop, bor_neg, bor_not, bor_and, bor_or, bor_cmp, bor_ix, bor_sl, bor_sl3, bor_inr, bor_call0, bor_bi, bor_isi, bor_call, bor_lc, lookE_val, lookB_val, lookB_own, valM_ok, valM_stuck, valM_ex, d_val, d_own, negD_i, notD_b, andD_t, andD_f, orD_t, orD_f, andD_b, orD_b, add_ii, sub_ii, mul_ii', fdiv_ii', mod_ii', pow10_9, pow10_10, pow10_12, pow10_15, pow10_20, pow10_30, pow10_60, pow10_120, add_ll, add_tt, lt_ii, le_ii, gt_ii, ge_ii, eq_ii, ne_ii, isN_d, notN_d, isB_bb, notB_bb, ix_l, ix_t, ixO_some, at_0, at_1, at_2, at_3, iteD_t, iteD_f, iteD_b, ret_var, retV_b, end_rt, end_nx, end_ex, ret_con, ret_glob, ret_tup, ret_lst, ret_rep, ret_bop, ret_neg, ret_not, ret_and, ret_or, ret_cmp, ret_ix, ret_sl, ret_sl3, ret_inr, ret_call0, safe_ok, inr_t, inr_f, S_tri, tri_ok, tri_ex, su_nil, su_cons, suD_is, suD_con, suD_two, suD_lst, suD_cat, suCat_l, E_sl3, E_inr, E_call0, mul_ti, List.map_cons, List.map_nil, ret_bi, ret_isi, ret_call, ret_lc, isi_ii, isi_ib, isi_it, isi_il, isi_in, isi_bi, isi_bb, isi_tt, isi_tl, isi_ti, isi_tn, isi_ll, isi_lt, bi_abs, bi_len_l, bi_len_t, bi_int_i, bi_int_b, bi_list_l, bi_list_t, bi_tuple_l, bi_tuple_t, bi_sum, bi_all, sumO_some, allO_some, bi_min2, bi_max2, phi_0, phi_1, phi_2, phi_s, bindT_nm, bindT_tp, bindT_tl, bindTs_nil, bindTs_cons, it_seq, it_zip_t, it_zip_l, it_rev, itL, itT, turn_0, turn_t, turn_f, wipe_nil, wipe_cons, forF_eq, whlC_eq, whlF_eq, lcF_eq, bind_ok, bind_stuck, bind_ex, List.set_cons_zero, List.set_cons_succ, List.getElem?_cons_zero, List.getElem?_cons_succ, if_true, if_false, Bool.false_eq_true, part_0, part_1, sl_l, sl_t, nonD, Bool.not_true, Bool.not_false, Bool.and_true, Bool.true_and, Bool.and_false, Bool.false_and, Bool.or_true, Bool.true_or, Bool.or_false, Bool.false_or, Int.cast_ofNat_Int, beq_self_eq_true, decide_true, decide_false, Int.neg_neg, Int.zero_add, Int.add_zero, line_lt, small_i, it_rng1, it_rng2, eq_self, for_nil, for_cons, forK_nx, forK_ct, forK_rt, lc_nil, lc_cons, lcK_some, lcK_none, rng_3, rng_4, run_whole, run_cell, run_near, vals_nil, vals_cons, vals_map, allI_nil, allI_cons, allI_map, allI_app, vals_app, run_divl, run_divt, run_ldivl, run_ldivt, run_euclid, ints_all, List.length_cons, List.length_nil, List.length_map, List.length_append, List.cons_append, List.nil_append, List.length_set, List.length_reverse, go_nx, go_ct, ret_ok, run_mirrored, app_ok, ix_q0, ix_q1, ix_q2, ix_q3, run_qsame, rng_0, rng_1, rng_2, turn_b, Q.vs_len, isi_q, len_q, seq_q, ne_q, eq_q, ne_q0, ne_li, eq_li, ix_v0, ix_v1, ix_v2, ix_m0, ix_m1, ix_m2, ix_n0, ix_n1, seq_v, seq_m, isi_v, isi_m, isi_n, len_v, len_m, len_n, list_v, bind_v, bind_m, bind_n, bind_q, add_vv, add_tv, set4_0, set4_1, set4_2, set4_3, set3_0, set3_1, set3_2, all_3, all_4, bools_3, bools_4, run_ldivq, run_divq, sum3, sum4, eq_nn, zip_v, tup_v, ne_rows, lcK_if, run_columns, run_back, run_lnumber, reduceIte, Nat.reduceAdd, Int.reduceBEq, Int.reduceToNat, Int.reduceMul, Int.reduceAdd, Int.reduceSub, Int.reduceLT, Int.reduceLE, Int.reduceFMod, Int.reduceFDiv, Int.reduceNeg])
theorem lp_step {Φ : Fs} {A B : Option B} {f x : Int} : forF Φ (.nm 2) lpB (.int x) [A, some (.val (.int f)), B] = .ok (.nx [A, some (.val (.int (lpS f x))), some (.val (.int x))]) := by
  unfold lpB lpS
  by_cases h1 : 0 < x
  · have h2 : decide (x < 0) = false := decide_eq_false (by omega)
    repeat (first | walk_at "ev" | rw [if_pos h1] | rw [decide_eq_true h1] | rw [h2] | rw [abs_nat])
  · by_cases h2 : x < 0
    · repeat (first | walk_at "ev" | rw [if_neg h1] | rw [if_pos h2] | rw [decide_eq_false h1] | rw [decide_eq_true h2] | rw [abs_nat] | rw [Int.zero_sub])
    · repeat (first | walk_at "ev" | rw [if_neg h1] | rw [if_neg h2] | rw [decide_eq_false h1] | rw [decide_eq_false h2] | rw [abs_nat])
theorem lp_end {q p : Q} {s : Int} (h : Pl q p s) : lpS (lpS (lpS (lpS (q.g : Int) q.d) q.c) q.b) q.a = s := by
  have e1 := Q.g_sc s p
  rw [← h.e, h.g, Nat.mul_one] at e1
  have e2 := Q.lead_sc h.s p
  rw [← h.e] at e2
  have hl := h.l
  have hs := h.s
  have k1 : 0 < q.lead → 0 < s := fun z => by
    rcases Int.lt_or_gt_of_ne hs with z2 | z2
    · have := Int.mul_neg_of_neg_of_pos z2 hl; omega
    · exact z2
  have k2 : q.lead < 0 → s < 0 := fun z => by
    rcases Int.lt_or_gt_of_ne hs with z2 | z2
    · exact z2
    · have := Int.mul_pos z2 hl; omega
  have k3 : q.lead ≠ 0 := fun z => by
    rw [e2] at z
    rcases Int.mul_eq_zero.mp z with z | z <;> omega
  unfold Q.lead at k1 k2 k3
  unfold lpS
  clear e2
  generalize q.g = g at *
  repeat' split
  all_goals first | omega | (simp only [*, if_true, if_false, reduceIte] at k1 k2 k3; omega) | (split at k1 <;> (try split at k1) <;> (try split at k1) <;> simp_all <;> omega)
theorem run_lplain {q p : Q} {s : Int} {n : Nat} (h : Pl q p s) (b : q.ok n) (hn : n ≤ 8999) : d_lplain [q4 q] = .ok (.val (q4 p)) := by
  have hz : q ≠ Q.zero := fun e => by
    have h1 := h.l
    have h2 := Q.lead_sc h.s p
    rw [← h.e, e] at h2
    have h3 : s * p.lead = 0 := h2.symm
    rcases Int.mul_eq_zero.mp h3 with z | z
    · exact h.s z
    · omega
  have hgb := Q.g_bd hz b
  have e1 := Q.g_sc s p
  rw [← h.e, h.g, Nat.mul_one] at e1
  have sb : s.natAbs < 2 ^ 9000 := by
    have := bd_mono hgb (show n ≤ 9000 by omega)
    omega
  have s0 := h.s
  have ea : q.a = s * p.a := congrArg Q.a h.e
  have eb : q.b = s * p.b := congrArg Q.b h.e
  have ec : q.c = s * p.c := congrArg Q.c h.e
  have ed : q.d = s * p.d := congrArg Q.d h.e
  have le := lp_end h
  refine o_lplain ?_
  unfold b_lplain
  have st := fun (f x : Int) (A B : Option B) => lp_step (Φ := phi [d_ldivisor]) (A := A) (B := B) (f := f) (x := x)
  have hf : forD (forF (phi [d_ldivisor]) (.nm 2) lpB) [.int q.d, .int q.c, .int q.b, .int q.a] [some (.val (q4 q)), some (.val (.int (gcdL q.vs : Nat))), none] = .ok (.nx [some (.val (q4 q)), some (.val (.int (lpS (lpS (lpS (lpS (gcdL q.vs : Nat) q.d) q.c) q.b) q.a))), some (.val (.int q.a))]) := by
    simp only [for_cons, st, forK_nx, for_nil]
  unfold lpB at hf
  have fin : ∀ f : Int, f = s → (q.a.fdiv f = p.a ∧ q.b.fdiv f = p.b ∧ q.c.fdiv f = p.c ∧ q.d.fdiv f = p.d) ∧ f ≠ 0 ∧ f.natAbs < 2 ^ 9000 := fun f e => by
    subst e
    exact ⟨⟨by rw [ea, fdiv_sc s0], by rw [eb, fdiv_sc s0], by rw [ec, fdiv_sc s0], by rw [ed, fdiv_sc s0]⟩, s0, sb⟩
  obtain ⟨⟨f1, f2, f3, f4⟩, f5, f6⟩ := fin _ le
  rw [show q.g = gcdL q.vs from rfl] at f1 f2 f3 f4 f5 f6
  have rv : itD .rev [q4 q] = .ok [.int q.d, .int q.c, .int q.b, .int q.a] := rfl
  have sv : seqD (q4 q) = .ok [.int q.a, .int q.b, .int q.c, .int q.d] := rfl
  have rr : [PyData.int q.a, PyData.int q.b, PyData.int q.c, PyData.int q.d].reverse = [.int q.d, .int q.c, .int q.b, .int q.a] := rfl
  repeat (first | rw [rr] | rw [hf] | rw [sv] | walk_at "ev" | rw [show q.vs.map PyData.int = [.int q.a, .int q.b, .int q.c, .int q.d] from rfl] | rw [f1] | rw [f2] | rw [f3] | rw [f4])
  rfl
theorem Pl.ne {q p : Q} {s : Int} (h : Pl q p s) : p ≠ Q.zero := fun e => by
  have := h.l
  rw [e] at this
  exact absurd this (by decide)
theorem ne_nn {T : Tn} : cmpD .ne (tn T) (tn T) = .ok (.val (.bool false)) := by
  rw [ne_dd, if_pos (by unfold eqOk; rw [deep_n]; rfl), eqv_nn]
  rfl
theorem run_quad_turn {q : Q} {k : Nat} (hq : q ≠ Q.zero) (qb : q.ok k) (hk : k ≤ 1900) : ∃ p s, Pl q p s ∧ d_quad_of [tn (Tn.of q)] = .ok (.val (q4 p)) ∧ d_lplain [q4 q] = .ok (.val (q4 p)) ∧ Tn.of q = Tn.of p ∧ p.ok k := by
  obtain ⟨p, hp⟩ := Pl.mk' hq
  generalize (if q.lead < 0 then -(q.g : Int) else q.g) = s at hp
  have hTp : Tn.of q = Tn.of p := by
    conv => lhs; rw [hp.e]
    exact Tn.of_sc hp.ne hp.s
  have bT := Tn.ok_of hq qb
  rw [hTp] at bT
  have e4 := run_quad_of (Tn.lw (T := Tn.ofQ p) (Q.size_pos hp.ne)) rfl hp.g hp.l bT (by omega)
  exact ⟨p, s, hp, by rw [hTp]; exact e4, run_lplain hp qb (by omega), hTp, hp.ok qb⟩
theorem Tn.back_mul {q : Q} (hq : q ≠ Q.zero) : (Tn.of q).tr.mul (Tn.of q) = ⟨⟨(Tn.of q).n * (Tn.of q).n, 0, 0⟩, ⟨0, (Tn.of q).n * (Tn.of q).n, 0⟩, ⟨0, 0, (Tn.of q).n * (Tn.of q).n⟩, (Tn.of q).n * (Tn.of q).n⟩ := by
  have h := Tn.lw (T := Tn.ofQ q) (Q.size_pos hq)
  have e1 : Tn.sc ((Tn.ofQ q).g * (Tn.ofQ q).g) ((Tn.of q).tr.mul (Tn.of q)) = Tn.ofQ ⟨q.size, 0, 0, 0⟩ := by
    rw [← Tn.mul_sc, ← Tn.tr_sc, show Tn.sc (Tn.ofQ q).g (Tn.of q) = Tn.ofQ q from h.e.symm, Tn.tr_ofQ, Tn.mul_ofQ]
    congr 1
    obtain ⟨a, b, c, d⟩ := q
    simp only [Q.mul, Q.conj, Q.size, Q.mk.injEq]
    refine ⟨?_, ?_, ?_, ?_⟩ <;> grind
  have en : q.size = (Tn.ofQ q).g * (Tn.of q).n := congrArg Tn.n h.e
  have g0 : (Tn.ofQ q).g * (Tn.ofQ q).g ≠ 0 := Int.mul_ne_zero (by have := h.s; omega) (by have := h.s; omega)
  generalize hM : (Tn.of q).tr.mul (Tn.of q) = M at *
  generalize (Tn.of q).n = n at *
  generalize (Tn.ofQ q).g = g at *
  have e2 : Tn.ofQ ⟨q.size, 0, 0, 0⟩ = Tn.sc (g * g) ⟨⟨n * n, 0, 0⟩, ⟨0, n * n, 0⟩, ⟨0, 0, n * n⟩, n * n⟩ := by
    rw [en]
    simp only [Tn.ofQ, Tn.sc, V3.sc, Q.size, Tn.mk.injEq, V3.mk.injEq]
    refine ⟨⟨?_, ?_, ?_⟩, ⟨?_, ?_, ?_⟩, ⟨?_, ?_, ?_⟩, ?_⟩ <;> grind
  rw [e2] at e1
  obtain ⟨⟨px, py, pz⟩, ⟨qx, qy, qz⟩, ⟨rx, ry, rz⟩, m⟩ := M
  simp only [Tn.sc, V3.sc, Tn.mk.injEq, V3.mk.injEq, Int.mul_eq_mul_left_iff g0] at e1 ⊢
  exact e1
theorem Tn.of_conj_conj (q : Q) : q.conj.conj = q := by cases q; simp [Q.conj]
end Lb
namespace Lb
open PySem Tg
end Lb
namespace Lb
open PySem Tg
local macro_rules | `(tactic| walk_at "bd") => `(tactic| first | assumption | exact near_b3 | exact near_b6 | exact near_b9 | exact near_b999 | exact near_b1000 | exact near_b12 | exact near_b15 | exact near_b20 | exact near_b30 | exact near_b60 | exact bd_lit rfl (by decide) | (refine' bd_add ?h1 ?h2; (case h1 => walk_at "bd"); (case h2 => walk_at "bd")) | (refine' bd_sub ?h1 ?h2; (case h1 => walk_at "bd"); (case h2 => walk_at "bd")) | (refine' bd_mul ?h1 ?h2; (case h1 => walk_at "bd"); (case h2 => walk_at "bd")) | (refine' bd_neg ?_; walk_at "bd"))
local macro_rules | `(tactic| walk_at "ok") => `(tactic| first | assumption | decide | (refine line_lt ?_; (first | omega | (simp only [List.length_map, List.length_set, List.length_append, List.length_cons, List.length_nil, List.length_reverse]; omega))) | (refine' mulOk_of ?h1 ?h2 ?h3; (case h1 => walk_at "bd"); (case h2 => walk_at "bd"); (case h3 => first | decide | omega | (simp only [Nat.max_def]; first | decide | omega))) | (refine divOk_of ?_ ?_ <;> first | assumption | decide +kernel | omega) | omega | (simp -implicitDefEqProofs only [allI_nil, allI_cons, allI_map, allI_app, Bool.and_self, Bool.and_true]; done))
abbrev Vec := Nat → Int
inductive Sp (S : Vec → Prop) : Vec → Prop where
  | zero : Sp S (fun _ => 0)
  | step {u v : Vec} (n : Int) : Sp S u → S v → Sp S (fun j => u j + n * v j)
theorem Sp.mem {S : Vec → Prop} {v : Vec} (h : S v) : Sp S v := by
  have := Sp.step 1 Sp.zero h
  simpa using this
theorem Sp.cast {S : Vec → Prop} {u v : Vec} (h : Sp S u) (e : ∀ j, v j = u j) : Sp S v := by rw [funext e]; exact h
theorem Sp.comb {S : Vec → Prop} {u v : Vec} (m n : Int) (hu : Sp S u) (hv : Sp S v) : Sp S (fun j => m * u j + n * v j) := by
  have h1 : Sp S (fun j => m * u j) := by
    induction hu with
    | zero => simpa using Sp.zero (S := S)
    | @step u w k _ hw ih =>
      exact (Sp.step (m * k) ih hw).cast fun j => by grind
  induction hv with
  | zero => simpa using h1
  | @step v w k _ hw ih =>
    exact (Sp.step (n * k) ih hw).cast fun j => by grind
theorem Sp.sub {S T : Vec → Prop} {v : Vec} (hv : Sp S v) (h : ∀ u, S u → Sp T u) : Sp T v := by
  induction hv with
  | zero => exact Sp.zero
  | @step u w k _ hw ih =>
    have := Sp.comb 1 k ih (h w hw)
    simpa using this
theorem Sp.all {S : Vec → Prop} {P : Vec → Prop} {v : Vec} (hv : Sp S v) (h0 : P (fun _ => 0)) (hs : ∀ (u w : Vec) (n : Int), P u → S w → P (fun j => u j + n * w j)) : P v := by
  induction hv with
  | zero => exact h0
  | @step u w k _ hw ih => exact hs u w k ih hw
structure Tri (n : Nat) (R : Nat → Vec) : Prop where
  low : ∀ i j, j < i → R i j = 0
  lead : ∀ i, i < n → R i i = 0 → ∀ j, R i j = 0
def RS (n : Nat) (R : Nat → Vec) (v : Vec) : Prop := ∃ i, i < n ∧ v = R i
def Ma (n o p a c : Int) : Prop := a.natAbs ≤ n.natAbs ∧ c.natAbs * o.natAbs + a.natAbs * p.natAbs ≤ n.natAbs
def Sm (m n o p : Int) : Prop := p.natAbs < 2 ^ 9000 ∨ (o = n ∧ p.natAbs = n.natAbs - m.natAbs ∧ m.natAbs < 2 ^ 8990 ∧ 2 ^ 8995 ≤ n.natAbs)
theorem big2 : 2 ^ 8990 * 4 ≤ 2 ^ 8995 := by decide +kernel
theorem big3 : 2 ^ 8995 * 4 ≤ 2 ^ 9000 := by decide +kernel
theorem Sm.step {m n o p : Int} (h : Sm m n o p) (hs : 0 ≤ o * p) (hp : p ≠ 0) : Sm m n p (o - o.fdiv p * p) := by
  obtain ⟨q1, q2, q3⟩ := same_div hs hp
  rcases h with h | ⟨rfl, h2, h3, h4⟩
  · left
    rw [q2]
    exact Nat.lt_trans (Nat.mod_lt _ (by omega)) h
  · left
    rw [q2, h2]
    have e : o.natAbs = m.natAbs + (o.natAbs - m.natAbs) := by have := big2; omega
    rw [e, show m.natAbs + (o.natAbs - m.natAbs) - m.natAbs = o.natAbs - m.natAbs by omega, Nat.add_mod_right]
    have := Nat.mod_le m.natAbs (o.natAbs - m.natAbs)
    have := big2
    have := big3
    omega
theorem Ma.step {n o p a c q : Int} (h : Ma n o p a c) (ho : o ≠ 0) (hs : 0 ≤ o * p) (hp : p ≠ 0) : Ma n p (o - o.fdiv p * p) c (a - o.fdiv p * c) := by
  obtain ⟨q1, q2, q3⟩ := same_div hs hp
  have e : o.natAbs = (o.fdiv p).natAbs * p.natAbs + (o - o.fdiv p * p).natAbs := by
    rw [q1, q2, Nat.mul_comm]; exact (Nat.div_add_mod _ _).symm
  obtain ⟨h1, h2⟩ := h
  refine ⟨?_, mk_le h2 e ?_⟩
  · have := Nat.le_mul_of_pos_right c.natAbs (show 0 < o.natAbs by omega)
    omega
  · have := Int.natAbs_sub_le a (o.fdiv p * c)
    rw [Int.natAbs_mul] at this
    exact this
def vL (xs : List Int) : Vec := fun j => xs.getD j 0
def tl (xs : List Int) : D := .tuple (xs.map PyData.int)
def mixL (m : Int) (xs : List Int) (n : Int) (ys : List Int) : List Int := List.zipWith (fun a b => m * a + n * b) xs ys
theorem mixL_len {m n : Int} {xs ys : List Int} {k : Nat} (h1 : xs.length = k) (h2 : ys.length = k) : (mixL m xs n ys).length = k := by
  unfold mixL
  rw [List.length_zipWith]; omega
theorem vL_mix {m n : Int} {xs ys : List Int} (h : xs.length = ys.length) : vL (mixL m xs n ys) = fun j => m * vL xs j + n * vL ys j := by
  funext j
  unfold vL mixL
  rw [List.getD_eq_getElem?_getD, List.getD_eq_getElem?_getD, List.getD_eq_getElem?_getD, List.getElem?_zipWith]
  by_cases hj : j < xs.length
  · rw [List.getElem?_eq_getElem hj, List.getElem?_eq_getElem (by omega)]; rfl
  · rw [List.getElem?_eq_none (by omega), List.getElem?_eq_none (by omega)]; simp
abbrev Ro := List (Option (List Int))
def RR (rs : Ro) : Nat → Vec := fun k => match rs[k]? with
  | some (some r) => vL r
  | _ => fun _ => 0
def cnt1 (rs : Ro) (k : Nat) : Nat := (rs.take k).countP Option.isSome
theorem RR_some {rs : Ro} {k : Nat} {r : List Int} (h : rs[k]? = some (some r)) : RR rs k = vL r := by unfold RR; rw [h]
theorem RR_none {rs : Ro} {k : Nat} (h : rs[k]? = some none) : RR rs k = fun _ => 0 := by unfold RR; rw [h]
theorem RR_set {rs : Ro} {i k : Nat} {r : List Int} (hi : i < rs.length) : RR (rs.set i (some r)) k = if k = i then vL r else RR rs k := by
  unfold RR
  rw [List.getElem?_set]
  by_cases e : i = k
  · subst e; rw [if_pos rfl, if_pos hi, if_pos rfl]
  · rw [if_neg e, if_neg (Ne.symm e)]
theorem cnt_map {rs qs : Ro} (h : rs.map Option.isSome = qs.map Option.isSome) (k : Nat) : cnt1 rs k = cnt1 qs k := by
  have e : ∀ xs : Ro, cnt1 xs k = ((xs.map Option.isSome).take k).countP id := fun xs => by
    unfold cnt1
    rw [← List.map_take, List.countP_map]
    rfl
  rw [e, e, h]
theorem cnt_succ {rs : Ro} {k : Nat} {o : Option (List Int)} (h : rs[k]? = some o) : cnt1 rs (k + 1) = cnt1 rs k + if o.isSome then 1 else 0 := by
  unfold cnt1
  rw [take_at h, List.countP_append, List.countP_cons, List.countP_nil]
  simp
theorem cnt_le {rs : Ro} {k : Nat} : cnt1 rs k ≤ k := by
  unfold cnt1
  refine Nat.le_trans List.countP_le_length ?_
  rw [List.length_take]; omega
def rrN (P : Nat) (β : List Nat) : Nat → Nat
  | 0 => P
  | s + 1 => β.getD s 0 + rrN P β s + 1
def upd (R : Nat → Vec) (i : Nat) (r : Vec) : Nat → Vec := fun k => if k = i then r else R k
theorem step_span {n i : Nat} {R : Nat → Vec} {p : Vec} {a b c d : Int} (hi : i < n) (h : a * c + b * d = 1) {v : Vec} :
    Sp (fun u => RS n (upd R i (fun j => a * R i j + b * p j)) u ∨ u = fun j => c * p j + -d * R i j) v ↔ Sp (fun u => RS n R u ∨ u = p) v := by
  have hR : Sp (fun u => RS n R u ∨ u = p) (R i) := Sp.mem (.inl ⟨i, hi, rfl⟩)
  have hp : Sp (fun u => RS n R u ∨ u = p) p := Sp.mem (.inr rfl)
  have hR' : Sp (fun u => RS n (upd R i (fun j => a * R i j + b * p j)) u ∨ u = fun j => c * p j + -d * R i j) (fun j => a * R i j + b * p j) := Sp.mem (.inl ⟨i, hi, by unfold upd; rw [if_pos rfl]⟩)
  have hp' : Sp (fun u => RS n (upd R i (fun j => a * R i j + b * p j)) u ∨ u = fun j => c * p j + -d * R i j) (fun j => c * p j + -d * R i j) := Sp.mem (.inr rfl)
  constructor
  · intro hv
    refine hv.sub fun u hu => ?_
    rcases hu with ⟨k, hk, e⟩ | e
    · unfold upd at e
      by_cases ek : k = i
      · rw [if_pos ek] at e; rw [e]; exact Sp.comb a b hR hp
      · rw [if_neg ek] at e; rw [e]; exact Sp.mem (.inl ⟨k, hk, rfl⟩)
    · rw [e]; exact Sp.comb c (-d) hp hR
  · intro hv
    refine hv.sub fun u hu => ?_
    rcases hu with ⟨k, hk, e⟩ | e
    · by_cases ek : k = i
      · rw [e, ek]
        exact (Sp.comb c (-b) hR' hp').cast fun j => by grind
      · rw [e]; exact Sp.mem (.inl ⟨k, hk, by unfold upd; rw [if_neg ek]⟩)
    · rw [e]
      exact (Sp.comb d a hR' hp').cast fun j => by grind
structure RowK (n Λ k : Nat) (r : List Int) (e : Nat) : Prop where
  len : r.length = n
  low : ∀ j, j < k → vL r j = 0
  lead : vL r k ≠ 0
  ll : (vL r k).natAbs < 2 ^ Λ
  bd : ∀ j, (vL r j).natAbs < 2 ^ e
structure LOK (n : Nat) (rs : Ro) (Λ : Nat) (β : List Nat) : Prop where
  len : rs.length = n
  row : ∀ k r, rs[k]? = some (some r) → RowK n Λ k r (β.getD (cnt1 rs k) 0)
theorem LOK.tri {n : Nat} {rs : Ro} {Λ : Nat} {β : List Nat} (h : LOK n rs Λ β) : Tri n (RR rs) := by
  refine ⟨fun i j hj => ?_, fun i hi h0 j => ?_⟩
  · cases e : rs[i]? with
    | none => unfold RR; rw [e]
    | some o => cases o with
      | none => rw [RR_none e]
      | some r => rw [RR_some e]; exact (h.row i r e).low j hj
  · cases e : rs[i]? with
    | none => unfold RR; rw [e]
    | some o => cases o with
      | none => rw [RR_none e]
      | some r => rw [RR_some e] at h0; exact absurd h0 (h.row i r e).lead
structure Led (n : Nat) (rs : Ro) (P Λ : Nat) (β : List Nat) (p0 : List Int) (i : Nat) (qs : Ro) (p : List Int) : Prop where
  len : qs.length = n
  pl : p.length = n
  ms : qs.map Option.isSome = rs.map Option.isSome
  row : ∀ k r, qs[k]? = some (some r) → RowK n Λ k r (if k < i then rrN P β (cnt1 rs k + 1) else β.getD (cnt1 rs k) 0)
  pz : ∀ j, j < i → vL p j = 0
  pb : ∀ j, (vL p j).natAbs < 2 ^ rrN P β (cnt1 rs i)
  sp : ∀ v, Sp (fun u => RS n (RR qs) u ∨ u = vL p) v ↔ Sp (fun u => RS n (RR rs) u ∨ u = vL p0) v
theorem bnd_xy {x y u v : Int} {X Y r B : Nat} (hx : x.natAbs ≤ X) (hX : X < 2 ^ r) (hy : y.natAbs ≤ Y + 1) (hY : Y < 2 ^ B) (hu : u.natAbs < 2 ^ B) (hv : v.natAbs < 2 ^ r) : (x * u + y * v).natAbs < 2 ^ (B + r + 1) := by
  have q1 : (x * u).natAbs ≤ 2 ^ r * 2 ^ B - 2 ^ r := by
    rw [Int.natAbs_mul]
    have : x.natAbs * u.natAbs ≤ 2 ^ r * (2 ^ B - 1) := Nat.mul_le_mul (by omega) (by omega)
    rwa [Nat.mul_sub, Nat.mul_one] at this
  have q2 : (y * v).natAbs ≤ 2 ^ B * 2 ^ r - 2 ^ B := by
    rw [Int.natAbs_mul]
    have : y.natAbs * v.natAbs ≤ 2 ^ B * (2 ^ r - 1) := Nat.mul_le_mul (by omega) (by omega)
    rwa [Nat.mul_sub, Nat.mul_one] at this
  have q3 : 2 ^ (B + r + 1) = 2 ^ B * 2 ^ r + 2 ^ B * 2 ^ r := by rw [Nat.pow_succ, Nat.pow_add]; omega
  have q4 := Nat.mul_comm (2 ^ r) (2 ^ B)
  have q5 : 2 ^ r ≤ 2 ^ r * 2 ^ B := Nat.le_mul_of_pos_right _ (Nat.pow_pos (by decide))
  have q6 : 0 < 2 ^ r := Nat.pow_pos (by decide)
  omega
theorem Led.comb {n P Λ i : Nat} {rs qs : Ro} {β : List Nat} {p0 p old : List Int} (h : Led n rs P Λ β p0 i qs p) (H : LOK n rs Λ β) (hi : i < n) (h0 : vL p i ≠ 0) (e : qs[i]? = some (some old)) {g a b c d : Int}
    (hg : g = (Int.gcd (vL old i) (vL p i) : Nat)) (hc : vL old i = g * c) (hd : vL p i = g * d) (hab : a * vL old i + b * vL p i = g) (ha : a.natAbs ≤ (vL p i).natAbs) (hb : b.natAbs ≤ (vL old i).natAbs + 1) :
    Led n rs P Λ β p0 (i + 1) (qs.set i (some (mixL a old b p))) (mixL c p (-d) old) := by
  have hiq : i < qs.length := by rw [h.len]; exact hi
  have ho := h.row i old e
  rw [if_neg (Nat.lt_irrefl _)] at ho
  have hl : old.length = p.length := by rw [ho.len, h.pl]
  have g0 : g ≠ 0 := fun z => by rw [z, Int.zero_mul] at hd; exact h0 hd
  have gp : 0 < g := by omega
  have one : a * c + b * d = 1 := by
    rw [hc, hd] at hab
    have : g * (a * c + b * d) = g * 1 := by rw [Int.mul_one]; grind
    exact Int.eq_of_mul_eq_mul_left g0 this
  have ms : (qs.set i (some (mixL a old b p))).map Option.isSome = qs.map Option.isSome := by
    rw [List.map_set]
    have e1 : (qs.map Option.isSome)[i]? = some true := by rw [List.getElem?_map, e]; rfl
    refine List.ext_getElem? fun k => ?_
    rw [List.getElem?_set]
    by_cases ek : i = k
    · subst ek; rw [if_pos rfl, if_pos (by rw [List.length_map]; exact hiq), e1]; rfl
    · rw [if_neg ek]
  have ci : cnt1 rs (i + 1) = cnt1 rs i + 1 := by
    rw [← cnt_map h.ms, ← cnt_map h.ms (i), cnt_succ e]; rfl
  have pw : ∀ k, 0 < 2 ^ k := fun k => Nat.pow_pos (by decide)
  have hc1 : c.natAbs ≤ (vL old i).natAbs := by
    rw [hc, Int.natAbs_mul]; exact Nat.le_mul_of_pos_left _ (by omega)
  have hd1 : d.natAbs ≤ (vL p i).natAbs := by
    rw [hd, Int.natAbs_mul]; exact Nat.le_mul_of_pos_left _ (by omega)
  have bnd : ∀ (x y u v : Int), x.natAbs ≤ (vL p i).natAbs → y.natAbs ≤ (vL old i).natAbs + 1 → u.natAbs < 2 ^ β.getD (cnt1 rs i) 0 → v.natAbs < 2 ^ rrN P β (cnt1 rs i) → (x * u + y * v).natAbs < 2 ^ rrN P β (cnt1 rs (i + 1)) := by
    intro x y u v hx hy hu hv
    rw [ci]
    exact bnd_xy hx (h.pb i) hy (ho.bd i) hu hv
  refine ⟨by rw [List.length_set]; exact h.len, mixL_len h.pl ho.len, by rw [ms]; exact h.ms, fun k r hk => ?_, fun j hj => ?_, fun j => ?_, fun v => ?_⟩
  · rw [List.getElem?_set] at hk
    by_cases ek : i = k
    · subst ek
      rw [if_pos rfl, if_pos hiq] at hk
      cases hk
      rw [if_pos (Nat.lt_succ_self _)]
      refine ⟨mixL_len ho.len h.pl, fun j hj => ?_, ?_, ?_, fun j => ?_⟩
      · rw [vL_mix hl]; dsimp only; rw [ho.low j hj, h.pz j hj]; simp
      · rw [vL_mix hl]; dsimp only; rw [hab]; exact g0
      · rw [vL_mix hl]; dsimp only; rw [hab]
        have : g.natAbs ≤ (vL old i).natAbs := by
          rw [hc, Int.natAbs_mul]
          refine Nat.le_mul_of_pos_right _ ?_
          have := ho.lead
          rw [hc] at this
          have : c ≠ 0 := fun z => this (by rw [z, Int.mul_zero])
          omega
        have := ho.ll
        omega
      · rw [vL_mix hl, ← ci]; exact bnd a b _ _ ha hb (ho.bd j) (h.pb j)
    · rw [if_neg ek] at hk
      have hr := h.row k r hk
      by_cases hlt : k < i
      · rw [if_pos hlt] at hr; rw [if_pos (by omega)]; exact hr
      · rw [if_neg hlt] at hr; rw [if_neg (by omega)]; exact hr
  · rw [vL_mix hl.symm]
    dsimp only
    by_cases ej : j = i
    · rw [ej, hc, hd]; grind
    · rw [ho.low j (by omega), h.pz j (by omega)]; simp
  · rw [vL_mix hl.symm]
    dsimp only
    rw [Int.add_comm]
    exact bnd (-d) c _ _ (by rw [Int.natAbs_neg]; exact hd1) (by omega) (ho.bd j) (h.pb j)
  · rw [← h.sp v, ← step_span (n := n) (R := RR qs) (p := vL p) (a := a) (b := b) (c := c) (d := d) hi one]
    have e1 : RR (qs.set i (some (mixL a old b p))) = upd (RR qs) i (fun j => a * RR qs i j + b * vL p j) := funext fun k => by
      rw [RR_set hiq]
      unfold upd
      rw [RR_some e, vL_mix hl]
    rw [e1, vL_mix hl.symm, RR_some e]
theorem LOK.take {n Λ : Nat} {rs : Ro} {β : List Nat} (h : LOK n rs Λ β) : LOK n rs Λ (β.take n) := by
  refine ⟨h.len, fun k r hk => ?_⟩
  have hr := h.row k r hk
  have hk' : k < n := by
    rcases Nat.lt_or_ge k rs.length with h1 | h1
    · rw [← h.len]; exact h1
    · rw [List.getElem?_eq_none h1] at hk; cases hk
  have := cnt_le (rs := rs) (k := k)
  rw [show (β.take n).getD (cnt1 rs k) 0 = β.getD (cnt1 rs k) 0 by rw [List.getD_eq_getElem?_getD, List.getD_eq_getElem?_getD, List.getElem?_take_of_lt (by omega)]]
  exact hr
structure Sr where
  a : Int
  b : Int
  c : Int
  d : Int
  e : Int
  f : Int
deriving DecidableEq
def Sr.r0 (s : Sr) : V3 := ⟨s.a, s.b, s.c⟩
def Sr.r1 (s : Sr) : V3 := ⟨0, s.d, s.e⟩
def Sr.r2 (s : Sr) : V3 := ⟨0, 0, s.f⟩
def Sr.rows (s : Sr) : List D := [t3 s.r0, t3 s.r1, t3 s.r2]
structure Sr.ok (s : Sr) : Prop where
  a : 0 < s.a
  d : 0 < s.d
  f : 0 < s.f
  b0 : 0 ≤ s.b
  b1 : s.b < s.d
  c0 : 0 ≤ s.c
  c1 : s.c < s.f
  e0 : 0 ≤ s.e
  e1 : s.e < s.f
def Sr.has (s : Sr) (v : V3) : Prop := ∃ i j k : Int, v.x = i * s.a ∧ v.y = i * s.b + j * s.d ∧ v.z = i * s.c + j * s.e + k * s.f
def v3 (v : V3) : Vec := fun j => if j = 0 then v.x else if j = 1 then v.y else if j = 2 then v.z else 0
theorem v3_comb (m n : Int) (u v : V3) : (fun j => m * v3 u j + n * v3 v j) = v3 ⟨m * u.x + n * v.x, m * u.y + n * v.y, m * u.z + n * v.z⟩ := by
  funext j
  rcases j with _ | _ | _ | j
  · rfl
  · rfl
  · rfl
  · show m * 0 + n * 0 = (0 : Int); omega
theorem v3_inj {u v : V3} (h : v3 u = v3 v) : u = v := by
  have h0 := congrFun h 0
  have h1 := congrFun h 1
  have h2 := congrFun h 2
  cases u; cases v
  simp only [V3.mk.injEq]
  exact ⟨h0, h1, h2⟩
theorem v3_zero : v3 ⟨0, 0, 0⟩ = fun _ => 0 := by
  funext j
  rcases j with _ | _ | _ | j <;> rfl
def Gr (ps : List V3) (v : V3) : Prop := Sp (fun u => ∃ p ∈ ps, u = v3 p) (v3 v)
def sg (x : Int) : Int := if x < 0 then -1 else 1
def hs (x : Int) : Int := if decide (x < 0) = true then (1 : Int) else 0
end Lb
namespace Lb
open PySem Tg
def b_stripped : List S :=
   [.asg (.nm 2) (.call 0 [.lst [.var 0, .var 1]]),
    .whl (.cmp .gt (.var 2) (.con (.int 1))) [.asg (.nm 0) (.bop .fdiv (.var 0) (.var 2)), .asg (.nm 2) (.call 0 [.lst [.var 0, .var 1]])],
    .ret (.var 0)]
noncomputable def d_stripped : List D → M B := runF (phi [d_divisor]) 2 3 b_stripped
theorem o_stripped {x0 x1 : D} {r : M B} (h : endD (exL (phi [d_divisor]) b_stripped [some (.val x0), some (.val x1), none]) = r) : d_stripped [x0, x1] = r := run_of rfl rfl h
def b_dial_of : List S :=
   [.asg (.nm 1) (.ix (.var 0) (.con (.int 1))),
    .asg (.nm 2) (.tup [.con (.int 0), .con (.int 0), .con (.int 0)]),
    .asg (.nm 3) (.var 1),
    .for (.nm 4) .seq [.call 0 [.var 0]] [.asg (.nm 5) (.call 1 [.lst [.var 1, .ix (.var 4) (.con (.int 0)), .ix (.var 4) (.con (.int 1)), .ix (.var 4) (.con (.int 2))]]), .asg (.nm 6) (.call 1 [.lst [.var 3, .var 5]]), .asg (.nm 7) (.call 2 [.bop .fdiv (.var 1) (.var 6), .bop .fdiv (.var 3) (.var 6)]), .asg (.nm 2) (.bi .tuple [.lc (.bop .mod (.bop .add (.var 8) (.bop .mul (.var 7) (.var 9))) (.var 1)) (.tp [.nm 8, .nm 9]) .zip [.var 2, .var 4] [] [8, 9]]), .asg (.nm 3) (.call 1 [.lst [.var 1, .ix (.var 2) (.con (.int 0)), .ix (.var 2) (.con (.int 1)), .ix (.var 2) (.con (.int 2))]])],
    .ret (.tup [.var 2, .var 1])]
noncomputable def d_dial_of : List D → M B := runF (phi [d_columns, d_divisor, d_stripped]) 1 10 b_dial_of
theorem o_dial_of {x0 : D} {r : M B} (h : endD (exL (phi [d_columns, d_divisor, d_stripped]) b_dial_of [some (.val x0), none, none, none, none, none, none, none, none, none]) = r) : d_dial_of [x0] = r := run_of rfl rfl h
def b_share_alike : List S :=
   [.ret (.cmp .eq (.ix (.call 0 [.call 1 [.var 0], .var 1]) (.con (.int 1))) (.con (.int 1)))]
noncomputable def d_share_alike : List D → M B := runF (phi [d_after, d_back]) 2 2 b_share_alike
theorem o_share_alike {x0 x1 : D} {r : M B} (h : endD (exL (phi [d_after, d_back]) b_share_alike [some (.val x0), some (.val x1)]) = r) : d_share_alike [x0, x1] = r := run_of rfl rfl h
end Lb
namespace Lb
open PySem Tg
local macro_rules | `(tactic| walk_at "bd") => `(tactic| first | assumption | exact near_b3 | exact near_b6 | exact near_b9 | exact near_b999 | exact near_b1000 | exact near_b12 | exact near_b15 | exact near_b20 | exact near_b30 | exact near_b60 | exact bd_lit rfl (by decide) | (refine' bd_add ?h1 ?h2; (case h1 => walk_at "bd"); (case h2 => walk_at "bd")) | (refine' bd_sub ?h1 ?h2; (case h1 => walk_at "bd"); (case h2 => walk_at "bd")) | (refine' bd_mul ?h1 ?h2; (case h1 => walk_at "bd"); (case h2 => walk_at "bd")) | (refine' bd_neg ?_; walk_at "bd"))
local macro_rules | `(tactic| walk_at "ok") => `(tactic| first | assumption | decide | (refine line_lt ?_; (first | omega | (simp only [List.length_map, List.length_set, List.length_append, List.length_cons, List.length_nil, List.length_reverse]; omega))) | (refine' mulOk_of ?h1 ?h2 ?h3; (case h1 => walk_at "bd"); (case h2 => walk_at "bd"); (case h3 => first | decide | omega | (simp only [Nat.max_def]; first | decide | omega))) | (refine divOk_of ?_ ?_ <;> first | assumption | decide +kernel | omega) | omega | (simp -implicitDefEqProofs only [allI_nil, allI_cons, allI_map, allI_app, Bool.and_self, Bool.and_true]; done))
theorem nonD_t3 {v : V3} : nonD.match_1 (fun _ => Bool) (t3 v) (fun _ => true) (fun _ => false) = false := rfl
theorem nonD_tl {v : List Int} : nonD.match_1 (fun _ => Bool) (tl v) (fun _ => true) (fun _ => false) = false := rfl
theorem forK_ex {f : D → En → M Out} {ds : List D} {c : Nat} : forK f ds (.ex c) = .ex c := rfl
theorem Gr.mem {vs : List V3} {v : V3} (h : v ∈ vs) : Gr vs v := Sp.mem ⟨v, h, rfl⟩
theorem Gr.comb {vs : List V3} {u v : V3} (m n : Int) (hu : Gr vs u) (hv : Gr vs v) : Gr vs ⟨m * u.x + n * v.x, m * u.y + n * v.y, m * u.z + n * v.z⟩ := by
  unfold Gr
  rw [← v3_comb]
  exact Sp.comb m n hu hv
theorem Gr.zero {vs : List V3} : Gr vs ⟨0, 0, 0⟩ := by unfold Gr; rw [v3_zero]; exact Sp.zero
theorem Gr.all {vs : List V3} {v : V3} {P : V3 → Prop} (h : Gr vs v) (h0 : P ⟨0, 0, 0⟩) (hs : ∀ (u w : V3) (n : Int), P u → w ∈ vs → P ⟨u.x + n * w.x, u.y + n * w.y, u.z + n * w.z⟩) : P v := by
  have : ∃ w : V3, v3 v = v3 w ∧ P w := by
    refine Sp.all (P := fun u => ∃ w : V3, u = v3 w ∧ P w) h ⟨⟨0, 0, 0⟩, v3_zero.symm, h0⟩ ?_
    rintro _ _ n ⟨u, rfl, hu⟩ ⟨w, hw, rfl⟩
    refine ⟨_, ?_, hs u w n hu hw⟩
    have := v3_comb 1 n u w
    simpa only [Int.one_mul] using this
  obtain ⟨w, e, hw⟩ := this
  rw [v3_inj e]; exact hw
theorem Gr.sub {vs ws : List V3} {v : V3} (h : Gr vs v) (hs : ∀ p ∈ vs, Gr ws p) : Gr ws v := Sp.sub h fun u ⟨p, hp, e⟩ => by rw [e]; exact hs p hp
theorem rows_eq (s : Sr) : s.rows = [t3 s.r0, t3 s.r1, t3 s.r2] := rfl
theorem pig : ∀ {N M : Nat} (f : Nat → Nat), (∀ n, n < N → f n < M) → (∀ n k, n < N → k < N → f n = f k → n = k) → N ≤ M
  | 0, _, _, _, _ => Nat.zero_le _
  | N + 1, 0, f, h, _ => absurd (h 0 (by omega)) (by omega)
  | N + 1, M + 1, f, h, inj => by
    have hN := h N (by omega)
    have := pig (N := N) (M := M) (fun n => if f n < f N then f n else f n - 1) (fun n hn => by
      have h1 := h n (by omega)
      have h2 : f n ≠ f N := fun e => by have := inj n N (by omega) (by omega) e; omega
      split <;> omega) (fun n k hn hk e => by
      have h1 : f n ≠ f N := fun e => by have := inj n N (by omega) (by omega) e; omega
      have h2 : f k ≠ f N := fun e => by have := inj k N (by omega) (by omega) e; omega
      refine inj n k (by omega) (by omega) ?_
      split at e <;> split at e <;> omega)
    omega
def Ix {X : Type} (R : X → X → Prop) (N : Nat) : Prop := ∃ φ : X → Nat, (∀ v, φ v < N) ∧ (∀ u v, φ u = φ v ↔ R u v) ∧ ∀ k, k < N → ∃ v, φ v = k
theorem Ix.le {X : Type} {R : X → X → Prop} {N M : Nat} (h : Ix R N) (h' : Ix R M) : N ≤ M := by
  obtain ⟨φ, h1, h2, h3⟩ := h
  obtain ⟨ψ, k1, k2, k3⟩ := h'
  let f : Nat → Nat := fun n => if hn : n < N then ψ (Classical.choose (h3 n hn)) else 0
  refine pig f (fun n hn => ?_) (fun n k hn hk e => ?_)
  · show f n < M
    simp only [f, dif_pos hn]; exact k1 _
  · simp only [f, dif_pos hn, dif_pos hk] at e
    have e2 := (h2 _ _).mpr ((k2 _ _).mp e)
    rw [Classical.choose_spec (h3 n hn), Classical.choose_spec (h3 k hk)] at e2
    exact e2
theorem code_lt {A B i l : Nat} (hi : i < A) (hl : l < B) : i * B + l < A * B := by
  have : (i + 1) * B ≤ A * B := Nat.mul_le_mul_right B hi
  rw [Nat.add_mul] at this
  omega
theorem code_div {B i l : Nat} (hl : l < B) : (i * B + l) / B = i ∧ (i * B + l) % B = l := by
  have hB : 0 < B := by omega
  refine ⟨?_, ?_⟩
  · rw [Nat.mul_comm, Nat.mul_add_div hB, Nat.div_eq_of_lt hl, Nat.add_zero]
  · rw [Nat.mul_comm, Nat.mul_add_mod, Nat.mod_eq_of_lt hl]
def Sr.eqv (s : Sr) (u v : V3) : Prop := s.has ⟨u.x - v.x, u.y - v.y, u.z - v.z⟩
def Sr.y1 (s : Sr) (v : V3) : Int := v.y - v.x / s.a * s.b
def Sr.z1 (s : Sr) (v : V3) : Int := v.z - v.x / s.a * s.c - s.y1 v / s.d * s.e
def Sr.code (s : Sr) (v : V3) : Nat := ((v.x % s.a).toNat * s.d.toNat + (s.y1 v % s.d).toNat) * s.f.toNat + (s.z1 v % s.f).toNat
theorem code_inj {B i l i' l' : Nat} (hl : l < B) (hl' : l' < B) (e : i * B + l = i' * B + l') : i = i' ∧ l = l' := by
  have h1 := code_div (i := i) hl
  have h2 := code_div (i := i') hl'
  rw [e] at h1
  exact ⟨h1.1.symm.trans h2.1, h1.2.symm.trans h2.2⟩
theorem Sr.rest {s : Sr} (h : s.ok) {u v : V3} : s.eqv u v ↔ u.x % s.a = v.x % s.a ∧ s.y1 u % s.d = s.y1 v % s.d ∧ s.z1 u % s.f = s.z1 v % s.f := by
  have ha := h.a; have hd := h.d; have hf := h.f
  unfold Sr.eqv Sr.has
  constructor
  · rintro ⟨i, j, k, h1, h2, h3⟩
    dsimp only at h1 h2 h3
    have e1 : u.x = v.x + i * s.a := by omega
    have e2 : u.x / s.a = v.x / s.a + i := by rw [e1]; exact Int.add_mul_ediv_right _ _ (by omega)
    have e3 : s.y1 u = s.y1 v + j * s.d := by unfold Sr.y1; rw [e2, Int.add_mul]; omega
    have e4 : s.y1 u / s.d = s.y1 v / s.d + j := by rw [e3]; exact Int.add_mul_ediv_right _ _ (by omega)
    have e5 : s.z1 u = s.z1 v + k * s.f := by unfold Sr.z1; rw [e2, e4, Int.add_mul, Int.add_mul]; omega
    exact ⟨by rw [e1]; exact Int.add_mul_emod_self_right _ _ _, by rw [e3]; exact Int.add_mul_emod_self_right _ _ _, by rw [e5]; exact Int.add_mul_emod_self_right _ _ _⟩
  · rintro ⟨h1, h2, h3⟩
    have a1 := Int.mul_ediv_add_emod u.x s.a
    have a2 := Int.mul_ediv_add_emod v.x s.a
    have b1 := Int.mul_ediv_add_emod (s.y1 u) s.d
    have b2 := Int.mul_ediv_add_emod (s.y1 v) s.d
    have c1 := Int.mul_ediv_add_emod (s.z1 u) s.f
    have c2 := Int.mul_ediv_add_emod (s.z1 v) s.f
    have y1 : s.y1 u = u.y - u.x / s.a * s.b := rfl
    have y2 : s.y1 v = v.y - v.x / s.a * s.b := rfl
    have z1 : s.z1 u = u.z - u.x / s.a * s.c - s.y1 u / s.d * s.e := rfl
    have z2 : s.z1 v = v.z - v.x / s.a * s.c - s.y1 v / s.d * s.e := rfl
    refine ⟨u.x / s.a - v.x / s.a, s.y1 u / s.d - s.y1 v / s.d, s.z1 u / s.f - s.z1 v / s.f, ?_, ?_, ?_⟩
    · dsimp only; rw [Int.sub_mul, Int.mul_comm _ s.a, Int.mul_comm _ s.a]; omega
    · dsimp only; rw [Int.sub_mul, Int.sub_mul, Int.mul_comm (s.y1 u / s.d) s.d, Int.mul_comm (s.y1 v / s.d) s.d]; omega
    · dsimp only; rw [Int.sub_mul, Int.sub_mul, Int.sub_mul, Int.mul_comm (s.z1 u / s.f) s.f, Int.mul_comm (s.z1 v / s.f) s.f]; omega
theorem Sr.ix {s : Sr} (h : s.ok) : Ix s.eqv (s.a * s.d * s.f).toNat := by
  have ha := h.a; have hd := h.d; have hf := h.f
  have m1 : (s.a * s.d * s.f).toNat = s.a.toNat * s.d.toNat * s.f.toNat := by
    rw [Int.toNat_mul (Int.mul_nonneg (by omega) (by omega)) (by omega), Int.toNat_mul (by omega) (by omega)]
  rw [m1]
  have r1 := fun v : V3 => mod_rng (a := v.x) ha
  have r2 := fun v : V3 => mod_rng (a := s.y1 v) hd
  have r3 := fun v : V3 => mod_rng (a := s.z1 v) hf
  refine ⟨s.code, fun v => ?_, fun u v => ?_, fun k hk => ?_⟩
  · have := r1 v; have := r2 v; have := r3 v
    exact code_lt (code_lt (by omega) (by omega)) (by omega)
  · rw [Sr.rest h]
    have := r1 v; have := r2 v; have := r3 v; have := r1 u; have := r2 u; have := r3 u
    constructor
    · intro e
      obtain ⟨e1, e2⟩ := code_inj (by omega) (by omega) e
      obtain ⟨e3, e4⟩ := code_inj (by omega) (by omega) e1
      exact ⟨by omega, by omega, by omega⟩
    · rintro ⟨e1, e2, e3⟩
      unfold Sr.code
      rw [e1, e2, e3]
  · have f0 : 0 < s.f.toNat := by omega
    have d0 : 0 < s.d.toNat := by omega
    have k1 : k / s.f.toNat < s.a.toNat * s.d.toNat := Nat.div_lt_of_lt_mul (by rw [Nat.mul_comm]; exact hk)
    have k2 : k / s.f.toNat / s.d.toNat < s.a.toNat := Nat.div_lt_of_lt_mul (by rw [Nat.mul_comm]; exact k1)
    have k3 := Nat.mod_lt (k / s.f.toNat) d0
    have k4 := Nat.mod_lt k f0
    have w1 := Nat.div_add_mod (k / s.f.toNat) s.d.toNat
    have w2 := Nat.div_add_mod k s.f.toNat
    generalize k / s.f.toNat / s.d.toNat = X at *
    generalize k / s.f.toNat % s.d.toNat = Y at *
    generalize k % s.f.toNat = Z at *
    refine ⟨⟨(X : Nat), (Y : Nat), (Z : Nat)⟩, ?_⟩
    have q1 : ((X : Nat) : Int) / s.a = 0 := Int.ediv_eq_zero_of_lt (by omega) (by omega)
    have q2 : s.y1 ⟨(X : Nat), (Y : Nat), (Z : Nat)⟩ = (Y : Nat) := by
      unfold Sr.y1; dsimp only; rw [q1]; omega
    have q3 : ((Y : Nat) : Int) / s.d = 0 := Int.ediv_eq_zero_of_lt (by omega) (by omega)
    have q4 : s.z1 ⟨(X : Nat), (Y : Nat), (Z : Nat)⟩ = (Z : Nat) := by
      unfold Sr.z1; rw [q2, q3]; dsimp only; rw [q1]; omega
    unfold Sr.code
    rw [q2, q4]
    dsimp only
    rw [Int.emod_eq_of_lt (by omega) (by omega), Int.emod_eq_of_lt (by omega) (by omega), Int.emod_eq_of_lt (by omega) (by omega), Int.toNat_natCast, Int.toNat_natCast, Int.toNat_natCast]
    rw [Nat.mul_comm X, w1, Nat.mul_comm, w2]
def V3.add (u v : V3) : V3 := ⟨u.x + v.x, u.y + v.y, u.z + v.z⟩
def V3.neg (u : V3) : V3 := ⟨-u.x, -u.y, -u.z⟩
end Lb
namespace Lb
open PySem Tg
def b_listurn3 : List S :=
   [.ite (.or (.not (.isi (.var 0) .tuple)) (.or (.cmp .ne (.bi .len [.var 0]) (.con (.int 2))) (.or (.not (.isi (.ix (.var 0) (.con (.int 0))) .tuple)) (.cmp .ne (.bi .len [.ix (.var 0) (.con (.int 0))]) (.con (.int 3)))))) [.ret (.con (.bool false))] [],
    .ite (.or (.not (.call 0 [.ix (.var 0) (.con (.int 1))])) (.cmp .lt (.ix (.var 0) (.con (.int 1))) (.con (.int 1)))) [.ret (.con (.bool false))] [],
    .set 1 (.lst [.ix (.var 0) (.con (.int 1))]),
    .for (.nm 2) .seq [.ix (.var 0) (.con (.int 0))] [.ite (.or (.not (.isi (.var 2) .tuple)) (.cmp .ne (.bi .len [.var 2]) (.con (.int 3)))) [.ret (.con (.bool false))] [], .for (.nm 7) .seq [.var 2] [.ite (.not (.call 0 [.var 7])) [.ret (.con (.bool false))] [], .app 1 (.var 7)]],
    .for (.nm 3) .rng [.con (.int 3)] [.for (.nm 8) .rng [.con (.int 3)] [.ite (.cmp .ne (.call 1 [.ix (.ix (.var 0) (.con (.int 0))) (.var 3), .ix (.ix (.var 0) (.con (.int 0))) (.var 8)]) (.bop .mul (.bop .mul (.ix (.var 0) (.con (.int 1))) (.ix (.var 0) (.con (.int 1)))) (.bi .int [.cmp .eq (.var 3) (.var 8)]))) [.ret (.con (.bool false))] []]],
    .asg (.nm 4) (.ix (.ix (.var 0) (.con (.int 0))) (.con (.int 0))),
    .asg (.nm 5) (.ix (.ix (.var 0) (.con (.int 0))) (.con (.int 1))),
    .asg (.nm 6) (.tup [.bop .sub (.bop .mul (.ix (.var 4) (.con (.int 1))) (.ix (.var 5) (.con (.int 2)))) (.bop .mul (.ix (.var 4) (.con (.int 2))) (.ix (.var 5) (.con (.int 1)))), .bop .sub (.bop .mul (.ix (.var 4) (.con (.int 2))) (.ix (.var 5) (.con (.int 0)))) (.bop .mul (.ix (.var 4) (.con (.int 0))) (.ix (.var 5) (.con (.int 2)))), .bop .sub (.bop .mul (.ix (.var 4) (.con (.int 0))) (.ix (.var 5) (.con (.int 1)))) (.bop .mul (.ix (.var 4) (.con (.int 1))) (.ix (.var 5) (.con (.int 0))))]),
    .frz [1] (.ret (.and (.cmp .eq (.call 1 [.var 6, .ix (.ix (.var 0) (.con (.int 0))) (.con (.int 2))]) (.bop .mul (.bop .mul (.ix (.var 0) (.con (.int 1))) (.ix (.var 0) (.con (.int 1)))) (.ix (.var 0) (.con (.int 1))))) (.cmp .eq (.call 2 [.var 1]) (.con (.int 1)))))]
noncomputable def d_listurn3 : List D → M B := runF (phi [d_lnumber, d_ldot, d_ldiv2]) 1 9 b_listurn3
theorem o_listurn3 {x0 : D} {r : M B} (h : endD (exL (phi [d_lnumber, d_ldot, d_ldiv2]) b_listurn3 [some (.val x0), none, none, none, none, none, none, none, none]) = r) : d_listurn3 [x0] = r := run_of rfl rfl h
end Lb
namespace Lb
open PySem Tg
local macro_rules | `(tactic| walk_at "bd") => `(tactic| first | assumption | exact near_b3 | exact near_b6 | exact near_b9 | exact near_b999 | exact near_b1000 | exact near_b12 | exact near_b15 | exact near_b20 | exact near_b30 | exact near_b60 | exact bd_lit rfl (by decide) | (refine' bd_add ?h1 ?h2; (case h1 => walk_at "bd"); (case h2 => walk_at "bd")) | (refine' bd_sub ?h1 ?h2; (case h1 => walk_at "bd"); (case h2 => walk_at "bd")) | (refine' bd_mul ?h1 ?h2; (case h1 => walk_at "bd"); (case h2 => walk_at "bd")) | (refine' bd_neg ?_; walk_at "bd"))
local macro_rules | `(tactic| walk_at "ok") => `(tactic| first | assumption | decide | (refine line_lt ?_; (first | omega | (simp only [List.length_map, List.length_set, List.length_append, List.length_cons, List.length_nil, List.length_reverse]; omega))) | (refine' mulOk_of ?h1 ?h2 ?h3; (case h1 => walk_at "bd"); (case h2 => walk_at "bd"); (case h3 => first | decide | omega | (simp only [Nat.max_def]; first | decide | omega))) | (refine divOk_of ?_ ?_ <;> first | assumption | decide +kernel | omega) | omega | (simp -implicitDefEqProofs only [allI_nil, allI_cons, allI_map, allI_app, Bool.and_self, Bool.and_true]; done))
def IsG (S : Int → Prop) (g : Nat) : Prop := (∀ x, S x → (g : Int) ∣ x) ∧ ∀ d : Int, (∀ x, S x → d ∣ x) → d ∣ g
theorem IsG.none {S : Int → Prop} (h : ∀ x, ¬ S x) : IsG S 0 := ⟨fun x hx => absurd hx (h x), fun d _ => Int.dvd_zero d⟩
theorem range_get {n i : Nat} {d : D} (h : (rngD 0 1 n)[i]? = some d) : i < n ∧ d = .int (i : Nat) := by
  rw [rng_map1] at h
  obtain ⟨i', hi', rfl⟩ := map_get h
  rcases Nat.lt_or_ge i n with h1 | h1
  · rw [List.getElem?_range h1] at hi'
    exact ⟨h1, by rw [Option.some.inj hi']⟩
  · rw [List.getElem?_eq_none (by rw [List.length_range]; exact h1)] at hi'; cases hi'
instance V3.dec : DecidableEq V3 := fun u v => if h : u.x = v.x ∧ u.y = v.y ∧ u.z = v.z then isTrue (by cases u; cases v; simp_all) else isFalse (fun e => h (by rw [e]; exact ⟨rfl, rfl, rfl⟩))
theorem lay_vs : ∀ vs : List V3, PyData.canLayAll0 (vs.map t3) = true
  | [] => rfl
  | v :: vs => by rw [List.map_cons, PyData.canLayAll0, lay_vs vs]; rfl
theorem deep_vs : ∀ vs : List V3, PyData.depthAll (vs.map t3) ≤ 2
  | [] => by simp [PyData.depthAll]
  | v :: vs => by have := deep_vs vs; simp [PyData.depthAll, PyData.depth, t3] at this ⊢; omega
theorem shaped_vs (vs : List V3) : SeqAt.shaped (.list (vs.map t3)) = true := by
  unfold SeqAt.shaped
  have := deep_vs vs
  simp [PyData.canLay0, lay_vs, PyData.depth]; omega
theorem eqv_vs : ∀ vs ws : List V3, PyData.eqvAll (vs.map t3) (ws.map t3) = decide (vs = ws)
  | [], [] => by simp [PyData.eqvAll]
  | [], _ :: _ => by simp [PyData.eqvAll]
  | _ :: _, [] => by simp [PyData.eqvAll]
  | v :: vs, w :: ws => by
    rw [List.map_cons, List.map_cons, PyData.eqvAll, eqv_vs vs ws, eqv_v, Bool.eq_iff_iff]
    cases v; cases w
    simp
theorem ne_vs {vs ws : List V3} : cmpD .ne (.list (vs.map t3)) (.list (ws.map t3)) = .ok (.val (.bool (!decide (vs = ws)))) := by
  rw [ne_dd, if_pos (by unfold eqOk; rw [shaped_vs, shaped_vs]; rfl), PyData.eqv, eqv_vs]
theorem eq_vs {vs ws : List V3} : cmpD .eq (.list (vs.map t3)) (.list (ws.map t3)) = .ok (.val (.bool (decide (vs = ws)))) := by
  rw [eq_dd, if_pos (by unfold eqOk; rw [shaped_vs, shaped_vs]; rfl), PyData.eqv, eqv_vs]
theorem Sr.rows_inj {s t : Sr} : [s.r0, s.r1, s.r2] = [t.r0, t.r1, t.r2] ↔ s = t := by
  constructor
  · intro h
    simp only [List.cons.injEq, Sr.r0, Sr.r1, Sr.r2, V3.mk.injEq] at h
    cases s; cases t
    simp_all
  · rintro rfl; rfl
theorem eq_sr {s t : Sr} : cmpD .eq (.list s.rows) (.list t.rows) = .ok (.val (.bool (decide (s = t)))) := by
  have := eq_vs (vs := [s.r0, s.r1, s.r2]) (ws := [t.r0, t.r1, t.r2])
  rw [show decide ([s.r0, s.r1, s.r2] = [t.r0, t.r1, t.r2]) = decide (s = t) from decide_eq_decide.mpr Sr.rows_inj] at this
  exact this
theorem ne_sr {s t : Sr} : cmpD .ne (.list s.rows) (.list t.rows) = .ok (.val (.bool (!decide (s = t)))) := by
  have := ne_vs (vs := [s.r0, s.r1, s.r2]) (ws := [t.r0, t.r1, t.r2])
  rw [show decide ([s.r0, s.r1, s.r2] = [t.r0, t.r1, t.r2]) = decide (s = t) from decide_eq_decide.mpr Sr.rows_inj] at this
  exact this
theorem ix_s0 {s : Sr} : ixD (.list s.rows) (.int 0) = .ok (.val (t3 s.r0)) := by rw [rows_eq, ix_l, at_0]; rfl
theorem ix_s1 {s : Sr} : ixD (.list s.rows) (.int 1) = .ok (.val (t3 s.r1)) := by rw [rows_eq, ix_l, at_1]; rfl
theorem ix_s2 {s : Sr} : ixD (.list s.rows) (.int 2) = .ok (.val (t3 s.r2)) := by rw [rows_eq, ix_l, at_2]; rfl
theorem ix_t0 {s : Sr} : ixO (L2.atI s.rows 0) = .ok (.val (t3 s.r0)) := by rw [rows_eq, at_0]; rfl
theorem ix_t1 {s : Sr} : ixO (L2.atI s.rows 1) = .ok (.val (t3 s.r1)) := by rw [rows_eq, at_1]; rfl
theorem ix_t2 {s : Sr} : ixO (L2.atI s.rows 2) = .ok (.val (t3 s.r2)) := by rw [rows_eq, at_2]; rfl
theorem rx_a {s : Sr} : s.r0.x = s.a := rfl
theorem rx_b {s : Sr} : s.r0.y = s.b := rfl
theorem rx_c {s : Sr} : s.r0.z = s.c := rfl
theorem rx_0 {s : Sr} : s.r1.x = 0 := rfl
theorem rx_d {s : Sr} : s.r1.y = s.d := rfl
theorem rx_e {s : Sr} : s.r1.z = s.e := rfl
theorem rx_1 {s : Sr} : s.r2.x = 0 := rfl
theorem rx_2 {s : Sr} : s.r2.y = 0 := rfl
theorem rx_f {s : Sr} : s.r2.z = s.f := rfl
end Lb
namespace Lb
open PySem Tg
end Lb
namespace Lb
open PySem Tg
local macro_rules | `(tactic| walk_at "bd") => `(tactic| first | assumption | exact near_b3 | exact near_b6 | exact near_b9 | exact near_b999 | exact near_b1000 | exact near_b12 | exact near_b15 | exact near_b20 | exact near_b30 | exact near_b60 | exact bd_lit rfl (by decide) | (refine' bd_add ?h1 ?h2; (case h1 => walk_at "bd"); (case h2 => walk_at "bd")) | (refine' bd_sub ?h1 ?h2; (case h1 => walk_at "bd"); (case h2 => walk_at "bd")) | (refine' bd_mul ?h1 ?h2; (case h1 => walk_at "bd"); (case h2 => walk_at "bd")) | (refine' bd_neg ?_; walk_at "bd"))
local macro_rules | `(tactic| walk_at "ok") => `(tactic| first | assumption | decide | (refine line_lt ?_; (first | omega | (simp only [List.length_map, List.length_set, List.length_append, List.length_cons, List.length_nil, List.length_reverse]; omega))) | (refine' mulOk_of ?h1 ?h2 ?h3; (case h1 => walk_at "bd"); (case h2 => walk_at "bd"); (case h3 => first | decide | omega | (simp only [Nat.max_def]; first | decide | omega))) | (refine divOk_of ?_ ?_ <;> first | assumption | decide +kernel | omega) | omega | (simp -implicitDefEqProofs only [allI_nil, allI_cons, allI_map, allI_app, Bool.and_self, Bool.and_true]; done))
theorem V3.add_zero (v : V3) : v.add ⟨0, 0, 0⟩ = v := by simp [V3.add]
theorem V3.add_comm (u v : V3) : u.add v = v.add u := by simp only [V3.add, V3.mk.injEq]; omega
end Lb
namespace Lb
open PySem Tg
end Lb
namespace Lb
open PySem Tg
local macro_rules | `(tactic| walk_at "bd") => `(tactic| first | assumption | exact near_b3 | exact near_b6 | exact near_b9 | exact near_b999 | exact near_b1000 | exact near_b12 | exact near_b15 | exact near_b20 | exact near_b30 | exact near_b60 | exact bd_lit rfl (by decide) | (refine' bd_add ?h1 ?h2; (case h1 => walk_at "bd"); (case h2 => walk_at "bd")) | (refine' bd_sub ?h1 ?h2; (case h1 => walk_at "bd"); (case h2 => walk_at "bd")) | (refine' bd_mul ?h1 ?h2; (case h1 => walk_at "bd"); (case h2 => walk_at "bd")) | (refine' bd_neg ?_; walk_at "bd"))
local macro_rules | `(tactic| walk_at "ok") => `(tactic| first | assumption | decide | (refine line_lt ?_; (first | omega | (simp only [List.length_map, List.length_set, List.length_append, List.length_cons, List.length_nil, List.length_reverse]; omega))) | (refine' mulOk_of ?h1 ?h2 ?h3; (case h1 => walk_at "bd"); (case h2 => walk_at "bd"); (case h3 => first | decide | omega | (simp only [Nat.max_def]; first | decide | omega))) | (refine divOk_of ?_ ?_ <;> first | assumption | decide +kernel | omega) | omega | (simp -implicitDefEqProofs only [allI_nil, allI_cons, allI_map, allI_app, Bool.and_self, Bool.and_true]; done))
def g4 (m : Int) (w : V3) : Nat := gcdL [m, w.x, w.y, w.z]
theorem g4_m {m : Int} {w : V3} : ((g4 m w : Nat) : Int) ∣ m := gcdL_dvd (by simp)
theorem g4_x {m : Int} {w : V3} : ((g4 m w : Nat) : Int) ∣ w.x := gcdL_dvd (by simp)
theorem g4_y {m : Int} {w : V3} : ((g4 m w : Nat) : Int) ∣ w.y := gcdL_dvd (by simp)
theorem g4_z {m : Int} {w : V3} : ((g4 m w : Nat) : Int) ∣ w.z := gcdL_dvd (by simp)
theorem dvd_g4 {m : Int} {w : V3} {d : Nat} (h0 : (d : Int) ∣ m) (h1 : (d : Int) ∣ w.x) (h2 : (d : Int) ∣ w.y) (h3 : (d : Int) ∣ w.z) : d ∣ g4 m w := dvd_gcdL fun x hx => by
  simp only [List.mem_cons, List.not_mem_nil, or_false] at hx
  rcases hx with rfl | rfl | rfl | rfl <;> assumption
theorem g4_pos {m : Int} (hm : 0 < m) {w : V3} : 0 < g4 m w := gcdL_pos (x := m) (by simp) (by omega)
def V3.mod (w : V3) (m : Int) : V3 := ⟨w.x % m, w.y % m, w.z % m⟩
def V3.plus (w : V3) (n : Int) (c : V3) : V3 := ⟨w.x + n * c.x, w.y + n * c.y, w.z + n * c.z⟩
theorem dvd_mod {d m x : Int} (h : d ∣ m) : d ∣ x % m ↔ d ∣ x := by
  have e := Int.mul_ediv_add_emod x m
  constructor
  · intro k; rw [← e]; exact Int.dvd_add (Int.dvd_mul_of_dvd_left h) k
  · intro k
    have : x % m = x - m * (x / m) := by omega
    rw [this]; exact Int.dvd_sub k (Int.dvd_mul_of_dvd_left h)
theorem g4_mod {m : Int} {w : V3} : g4 m (w.mod m) = g4 m w :=
  Nat.dvd_antisymm (dvd_g4 g4_m ((dvd_mod g4_m).mp g4_x) ((dvd_mod g4_m).mp g4_y) ((dvd_mod g4_m).mp g4_z)) (dvd_g4 g4_m ((dvd_mod g4_m).mpr g4_x) ((dvd_mod g4_m).mpr g4_y) ((dvd_mod g4_m).mpr g4_z))
theorem cop_dvd {e s : Nat} {x : Int} (h : Nat.Coprime e s) (hd : (e : Int) ∣ s * x) : (e : Int) ∣ x := by
  have h1 := Int.natAbs_dvd_natAbs.mpr hd
  rw [Int.natAbs_mul, Int.natAbs_natCast, Int.natAbs_natCast] at h1
  exact Int.ofNat_dvd_left.mpr (h.dvd_of_dvd_mul_left h1)
structure Strip (a b s : Nat) : Prop where
  d : s ∣ a
  c : Nat.Coprime s b
  k : ∃ k, a ∣ s * b ^ k
theorem dial_step {m : Nat} (hm : 0 < m) {w c : V3} {s : Nat} (hs : Strip (m / Nat.gcd (g4 m w) (g4 m c)) (g4 m w / Nat.gcd (g4 m w) (g4 m c)) s) : g4 m (w.plus s c) = Nat.gcd (g4 m w) (g4 m c) := by
  generalize hmu : Nat.gcd (g4 m w) (g4 m c) = u at *
  have hu1 : u ∣ g4 m w := hmu ▸ Nat.gcd_dvd_left _ _
  have hu2 : u ∣ g4 m c := hmu ▸ Nat.gcd_dvd_right _ _
  have up : 0 < u := by rw [← hmu]; exact Nat.gcd_pos_of_pos_left _ (g4_pos (by omega))
  have tr : ∀ {x y : Nat} {z : Int}, x ∣ y → (y : Int) ∣ z → (x : Int) ∣ z := fun h k => Int.dvd_trans (Int.ofNat_dvd.mpr h) k
  have um : u ∣ m := Int.ofNat_dvd.mp (tr hu1 g4_m)
  have ge : u ∣ g4 m (w.plus s c) := dvd_g4 (tr hu1 g4_m) (Int.dvd_add (tr hu1 g4_x) (Int.dvd_mul_of_dvd_right (tr hu2 g4_x))) (Int.dvd_add (tr hu1 g4_y) (Int.dvd_mul_of_dvd_right (tr hu2 g4_y))) (Int.dvd_add (tr hu1 g4_z) (Int.dvd_mul_of_dvd_right (tr hu2 g4_z)))
  obtain ⟨d, hd⟩ := ge
  obtain ⟨H, hH⟩ := hu1
  obtain ⟨M, hM⟩ := um
  have e1 : m / u = M := by rw [hM]; exact Nat.mul_div_cancel_left _ up
  have e2 : g4 m w / u = H := by rw [hH]; exact Nat.mul_div_cancel_left _ up
  rw [e1, e2] at hs
  obtain ⟨⟨S, hS⟩, sc, k, hk⟩ := hs
  -- what divides u times something
  have canc : ∀ {x : Nat} {y z : Int}, z = u * y → ((u * x : Nat) : Int) ∣ z → (x : Int) ∣ y := fun {x y z} e h => by
    rw [e, Int.natCast_mul] at h
    exact Int.dvd_of_mul_dvd_mul_left (by omega) h
  have mult : ∀ {x : Nat} {y z : Int}, z = u * y → (x : Int) ∣ y → ((u * x : Nat) : Int) ∣ z := fun {x y z} e h => by
    rw [e, Int.natCast_mul]
    exact Int.mul_dvd_mul_left _ h
  have fac : ∀ {x : Int}, (u : Int) ∣ x → ∃ y, x = u * y := fun h => h
  obtain ⟨wx, hwx⟩ := fac (tr (show u ∣ g4 m w from ⟨H, hH⟩) (g4_x (m := m) (w := w)))
  obtain ⟨wy, hwy⟩ := fac (tr (show u ∣ g4 m w from ⟨H, hH⟩) (g4_y (m := m) (w := w)))
  obtain ⟨wz, hwz⟩ := fac (tr (show u ∣ g4 m w from ⟨H, hH⟩) (g4_z (m := m) (w := w)))
  obtain ⟨cx, hcx⟩ := fac (tr hu2 (g4_x (m := m) (w := c)))
  obtain ⟨cy, hcy⟩ := fac (tr hu2 (g4_y (m := m) (w := c)))
  obtain ⟨cz, hcz⟩ := fac (tr hu2 (g4_z (m := m) (w := c)))
  have HW : (H : Int) ∣ wx ∧ (H : Int) ∣ wy ∧ (H : Int) ∣ wz := ⟨canc hwx (hH ▸ g4_x), canc hwy (hH ▸ g4_y), canc hwz (hH ▸ g4_z)⟩
  have HM : H ∣ M := by
    have := canc (x := H) (y := M) (z := (m : Nat)) (by rw [hM, Int.natCast_mul]) (hH ▸ g4_m)
    exact Int.ofNat_dvd.mp this
  have px : w.x + s * c.x = u * (wx + s * cx) := by rw [hwx, hcx]; grind
  have py : w.y + s * c.y = u * (wy + s * cy) := by rw [hwy, hcy]; grind
  have pz : w.z + s * c.z = u * (wz + s * cz) := by rw [hwz, hcz]; grind
  have dW : (d : Int) ∣ wx + s * cx ∧ (d : Int) ∣ wy + s * cy ∧ (d : Int) ∣ wz + s * cz :=
    ⟨canc px (hd ▸ (g4_x (m := m) (w := w.plus s c))), canc py (hd ▸ (g4_y (m := m) (w := w.plus s c))), canc pz (hd ▸ (g4_z (m := m) (w := w.plus s c)))⟩
  have dM : d ∣ M := by
    have := canc (x := d) (y := M) (z := (m : Nat)) (by rw [hM, Int.natCast_mul]) (hd ▸ g4_m)
    exact Int.ofNat_dvd.mp this
  -- e divides d and H
  have e0 : Nat.Coprime d H := by
    have ed := Nat.gcd_dvd_left d H
    have eH := Nat.gcd_dvd_right d H
    show Nat.gcd d H = 1
    generalize Nat.gcd d H = e at ed eH ⊢
    have ecop : Nat.Coprime e s := (Nat.Coprime.coprime_dvd_right eH sc).symm
    have eC : ∀ {x y : Int}, (H : Int) ∣ x → (d : Int) ∣ x + s * y → (e : Int) ∣ y := fun h1 h2 => cop_dvd ecop (by
      have h3 := tr ed h2
      have h4 := tr eH h1
      exact (Int.dvd_add_right h4).mp h3)
    have l1 : u * e ∣ g4 m c := dvd_g4 (mult (by rw [hM, Int.natCast_mul]) (Int.ofNat_dvd.mpr (Nat.dvd_trans eH HM))) (mult hcx (eC HW.1 dW.1)) (mult hcy (eC HW.2.1 dW.2.1)) (mult hcz (eC HW.2.2 dW.2.2))
    have l2 : u * e ∣ g4 m w := by rw [hH]; exact Nat.mul_dvd_mul_left u eH
    have l3 := Nat.dvd_gcd l2 l1
    rw [hmu] at l3
    have := Nat.le_of_dvd up l3
    have e0 : 0 < e := Nat.pos_of_ne_zero fun z => by
      rw [z, Nat.mul_zero] at l3
      have := Nat.eq_zero_of_zero_dvd l3; omega
    have : e ≤ 1 := by
      rcases Nat.lt_or_ge 1 e with h1 | h1
      · have := Nat.mul_le_mul_left u h1; omega
      · exact h1
    omega
  have e1 : d ∣ s := by
    have h1 : d ∣ s * H ^ k := Nat.dvd_trans dM hk
    exact (Nat.Coprime.pow_right k e0).dvd_of_dvd_mul_right h1
  have e2 : d ∣ H := by
    have dw : ∀ {x y : Int}, (d : Int) ∣ x + s * y → (d : Int) ∣ x := fun {x y} h => by
      have h4 : (d : Int) ∣ s * y := Int.dvd_mul_of_dvd_left (Int.ofNat_dvd.mpr e1)
      exact (Int.dvd_add_left h4).mp h
    have l2 : u * d ∣ g4 m w := dvd_g4 (mult (by rw [hM, Int.natCast_mul]) (Int.ofNat_dvd.mpr dM)) (mult hwx (dw dW.1)) (mult hwy (dw dW.2.1)) (mult hwz (dw dW.2.2))
    rw [hH] at l2
    exact Nat.dvd_of_mul_dvd_mul_left up l2
  have e3 : d = 1 := by
    have := Nat.dvd_gcd (Nat.dvd_refl d) e2
    rw [show Nat.gcd d H = 1 from e0] at this
    exact Nat.dvd_one.mp this
  rw [hd, e3, Nat.mul_one]
local macro_rules | `(tactic| walk_at "ev") => `(tactic| simp -implicitDefEqProofs (disch := walk_at "ok") only [exL_nil, exL_cons, next_nx, next_rt, next_ct, next_ex, S_asg, S_set, S_put, S_app, S_ite, S_for, S_whl, S_ret, S_cont, S_pass, S_frz, S_raise, put_own, putK_i, app_own, frz_nil, frz_cons, frzK_own, frzK_val, E_var, E_con, E_glob, E_tup, E_lst, E_rep, E_bop, E_neg, E_not, E_and, E_or, E_cmp, E_ix, E_sl, E_bi, E_isi, E_call, E_lc, lcO_ok, L_nil, L_cons, Bs_nil, Bs_cons, bor_var, bor_con, bor_glob, bor_tup, bor_lst, bor_rep, bor_bop, bor_neg, bor_not, bor_and, bor_or, bor_cmp, bor_ix, bor_sl, bor_sl3, bor_inr, bor_call0, bor_bi, bor_isi, bor_call, bor_lc, lookE_val, lookB_val, lookB_own, valM_ok, valM_stuck, valM_ex, d_val, d_own, negD_i, notD_b, andD_t, andD_f, orD_t, orD_f, andD_b, orD_b, add_ii, sub_ii, mul_ii', fdiv_ii', mod_ii', pow10_9, pow10_10, pow10_12, pow10_15, pow10_20, pow10_30, pow10_60, pow10_120, add_ll, add_tt, lt_ii, le_ii, gt_ii, ge_ii, eq_ii, ne_ii, isN_d, notN_d, isB_bb, notB_bb, ix_l, ix_t, ixO_some, at_0, at_1, at_2, at_3, iteD_t, iteD_f, iteD_b, ret_var, retV_b, end_rt, end_nx, end_ex, ret_con, ret_glob, ret_tup, ret_lst, ret_rep, ret_bop, ret_neg, ret_not, ret_and, ret_or, ret_cmp, ret_ix, ret_sl, ret_sl3, ret_inr, ret_call0, safe_ok, inr_t, inr_f, S_tri, tri_ok, tri_ex, su_nil, su_cons, suD_is, suD_con, suD_two, suD_lst, suD_cat, suCat_l, E_sl3, E_inr, E_call0, mul_ti, List.map_cons, List.map_nil, ret_bi, ret_isi, ret_call, ret_lc, isi_ii, isi_ib, isi_it, isi_il, isi_in, isi_bi, isi_bb, isi_tt, isi_tl, isi_ti, isi_tn, isi_ll, isi_lt, bi_abs, bi_len_l, bi_len_t, bi_int_i, bi_int_b, bi_list_l, bi_list_t, bi_tuple_l, bi_tuple_t, bi_sum, bi_all, sumO_some, allO_some, bi_min2, bi_max2, phi_0, phi_1, phi_2, phi_s, bindT_nm, bindT_tp, bindT_tl, bindTs_nil, bindTs_cons, it_seq, it_zip_t, it_zip_l, it_rev, itL, itT, turn_0, turn_t, turn_f, wipe_nil, wipe_cons, forF_eq, whlC_eq, whlF_eq, lcF_eq, bind_ok, bind_stuck, bind_ex, List.set_cons_zero, List.set_cons_succ, List.getElem?_cons_zero, List.getElem?_cons_succ, if_true, if_false, Bool.false_eq_true, part_0, part_1, sl_l, sl_t, nonD, Bool.not_true, Bool.not_false, Bool.and_true, Bool.true_and, Bool.and_false, Bool.false_and, Bool.or_true, Bool.true_or, Bool.or_false, Bool.false_or, Int.cast_ofNat_Int, beq_self_eq_true, decide_true, decide_false, Int.neg_neg, Int.zero_add, Int.add_zero, line_lt, small_i, it_rng1, it_rng2, eq_self, for_nil, for_cons, forK_nx, forK_ct, forK_rt, lc_nil, lc_cons, lcK_some, lcK_none, rng_3, rng_4, run_whole, run_cell, run_near, vals_nil, vals_cons, vals_map, allI_nil, allI_cons, allI_map, allI_app, vals_app, run_divl, run_divt, run_ldivl, run_ldivt, run_euclid, ints_all, List.length_cons, List.length_nil, List.length_map, List.length_append, List.cons_append, List.nil_append, List.length_set, List.length_reverse, go_nx, go_ct, ret_ok, run_mirrored, app_ok, ix_q0, ix_q1, ix_q2, ix_q3, run_qsame, rng_0, rng_1, rng_2, turn_b, Q.vs_len, isi_q, len_q, seq_q, ne_q, eq_q, ne_q0, ne_li, eq_li, ix_v0, ix_v1, ix_v2, ix_m0, ix_m1, ix_m2, ix_n0, ix_n1, seq_v, seq_m, isi_v, isi_m, isi_n, len_v, len_m, len_n, list_v, bind_v, bind_m, bind_n, bind_q, add_vv, add_tv, set4_0, set4_1, set4_2, set4_3, set3_0, set3_1, set3_2, all_3, all_4, bools_3, bools_4, run_ldivq, run_divq, sum3, sum4, eq_nn, zip_v, tup_v, ne_rows, lcK_if, run_columns, run_back, run_lnumber, ne_nn, nonD_t3, nonD_tl, forK_ex, ne_vs, eq_vs, eq_sr, ne_sr, ix_s0, ix_s1, ix_s2, ix_t0, ix_t1, ix_t2, rx_a, rx_b, rx_c, rx_0, rx_d, rx_e, rx_1, rx_2, rx_f, reduceIte, Nat.reduceAdd, Int.reduceBEq, Int.reduceToNat, Int.reduceMul, Int.reduceAdd, Int.reduceSub, Int.reduceLT, Int.reduceLE, Int.reduceFMod, Int.reduceFDiv, Int.reduceNeg])
theorem run_stripped {a b : Nat} (ha : 0 < a) (hb : 0 < b) (ab : a < 2 ^ 9000) : ∃ s : Nat, d_stripped [.int (a : Nat), .int (b : Nat)] = .ok (.val (.int (s : Nat))) ∧ Strip a b s := by
  have gL : ∀ x y : Nat, gcdL [(x : Int), (y : Int)] = Nat.gcd x y := fun x y => by simp [gcdL]
  obtain ⟨ρ1, w1, n, rfl, hn, ⟨k, hk⟩, h0, hq⟩ := whl_by (c := whlC (phi [d_divisor]) (.cmp .gt (.var 2) (.con (.int 1)))) (f := whlF (phi [d_divisor]) [.asg (.nm 0) (.bop .fdiv (.var 0) (.var 2)), .asg (.nm 2) (.call 0 [.lst [.var 0, .var 1]])])
    (fun ρ => ∃ n : Nat, ρ = [some (.val (.int (n : Nat))), some (.val (.int (b : Nat))), some (.val (.int (Nat.gcd n b : Nat)))] ∧ n ∣ a ∧ (∃ k, a ∣ n * b ^ k) ∧ 0 < n) (fun ρ => slotN ρ 0)
    (fun ρ => ∃ n : Nat, ρ = [some (.val (.int (n : Nat))), some (.val (.int (b : Nat))), some (.val (.int (Nat.gcd n b : Nat)))] ∧ n ∣ a ∧ (∃ k, a ∣ n * b ^ k) ∧ 0 < n ∧ Nat.gcd n b = 1)
    (fun ρ ⟨n, e, hn, ⟨k, hk⟩, h0⟩ => by
      subst e
      have gp : 0 < Nat.gcd n b := Nat.gcd_pos_of_pos_left _ h0
      by_cases h1 : 1 < Nat.gcd n b
      · right
        have hd : decide ((1 : Int) < (Nat.gcd n b : Nat)) = true := decide_eq_true (by omega)
        have gd := Nat.gcd_dvd_left n b
        have gb : Nat.gcd n b ≤ a := Nat.le_trans (Nat.le_of_dvd h0 gd) (Nat.le_of_dvd ha hn)
        obtain ⟨q, hq⟩ := gd
        have e1 : ((n : Nat) : Int).fdiv (Nat.gcd n b : Nat) = (n / Nat.gcd n b : Nat) := by rw [fdiv_pos (by omega)]; rfl
        have f1 : divOk ((n : Nat) : Int) (Nat.gcd n b : Nat) = true := divOk_of (by omega) (by rw [Int.natAbs_natCast]; omega)
        have nq : n / Nat.gcd n b = q := by
          rw [Nat.div_eq_iff_eq_mul_left gp (Nat.gcd_dvd_left n b), Nat.mul_comm]; exact hq
        have q0 : 0 < q := Nat.pos_of_ne_zero fun z => by rw [z] at hq; omega
        refine ⟨by repeat (first | walk_at "ev" | rw [hd]), [some (.val (.int ((n / Nat.gcd n b : Nat) : Nat))), some (.val (.int (b : Nat))), some (.val (.int (Nat.gcd (n / Nat.gcd n b) b : Nat)))], ?_, ⟨_, rfl, ?_, ?_, ?_⟩, ?_⟩
        · repeat (first | walk_at "ev" | rw [e1] | rw [gL])
        · rw [nq]; exact Nat.dvd_trans ⟨_, by rw [Nat.mul_comm]; exact hq⟩ hn
        · refine ⟨k + 1, Nat.dvd_trans hk ?_⟩
          rw [nq, Nat.pow_succ, show q * (b ^ k * b) = q * b * b ^ k by grind]
          refine Nat.mul_dvd_mul_right ?_ _
          conv => lhs; rw [hq, Nat.mul_comm]
          exact Nat.mul_dvd_mul_left q (Nat.gcd_dvd_right n b)
        · rw [nq]; exact q0
        · show (((n / Nat.gcd n b : Nat) : Int)).natAbs < ((n : Nat) : Int).natAbs
          rw [Int.natAbs_natCast, Int.natAbs_natCast]
          exact Nat.div_lt_self h0 h1
      · left
        have hd : decide ((1 : Int) < (Nat.gcd n b : Nat)) = false := decide_eq_false (by omega)
        exact ⟨by repeat (first | walk_at "ev" | rw [hd]), n, rfl, hn, ⟨k, hk⟩, h0, by omega⟩) [some (.val (.int (a : Nat))), some (.val (.int (b : Nat))), some (.val (.int (Nat.gcd a b : Nat)))] ⟨a, rfl, Nat.dvd_refl a, ⟨0, by simp⟩, ha⟩
  refine ⟨n, o_stripped ?_, hn, hq, k, hk⟩
  unfold b_stripped
  repeat (first | walk_at "ev" | rw [gL] | rw [w1])
def Cmb (m : Int) (c1 c2 c3 w : V3) : Prop := ∃ (a b c : Int) (k : V3), w.x = a * c1.x + b * c2.x + c * c3.x + m * k.x ∧ w.y = a * c1.y + b * c2.y + c * c3.y + m * k.y ∧ w.z = a * c1.z + b * c2.z + c * c3.z + m * k.z
theorem Cmb.zero {m : Int} {c1 c2 c3 : V3} : Cmb m c1 c2 c3 ⟨0, 0, 0⟩ := ⟨0, 0, 0, ⟨0, 0, 0⟩, by simp, by simp, by simp⟩
theorem Cmb.plus {m n : Int} {c1 c2 c3 w c : V3} (h : Cmb m c1 c2 c3 w) (hc : c = c1 ∨ c = c2 ∨ c = c3) : Cmb m c1 c2 c3 (w.plus n c) := by
  obtain ⟨a, b, d, k, h1, h2, h3⟩ := h
  unfold V3.plus
  rcases hc with rfl | rfl | rfl
  · exact ⟨a + n, b, d, k, by dsimp only; rw [h1]; grind, by dsimp only; rw [h2]; grind, by dsimp only; rw [h3]; grind⟩
  · exact ⟨a, b + n, d, k, by dsimp only; rw [h1]; grind, by dsimp only; rw [h2]; grind, by dsimp only; rw [h3]; grind⟩
  · exact ⟨a, b, d + n, k, by dsimp only; rw [h1]; grind, by dsimp only; rw [h2]; grind, by dsimp only; rw [h3]; grind⟩
theorem Cmb.mod {m : Int} {c1 c2 c3 w : V3} (h : Cmb m c1 c2 c3 w) : Cmb m c1 c2 c3 (w.mod m) := by
  obtain ⟨a, b, d, k, h1, h2, h3⟩ := h
  have e : ∀ x y l : Int, x = y + m * l → x % m = y + m * (l - x / m) := fun x y l h => by
    have := Int.mul_ediv_add_emod x m
    rw [Int.mul_sub]; omega
  exact ⟨a, b, d, ⟨k.x - w.x / m, k.y - w.y / m, k.z - w.z / m⟩, e _ _ _ h1, e _ _ _ h2, e _ _ _ h3⟩
theorem Cmb.dot {m : Int} {c1 c2 c3 w v : V3} (h : Cmb m c1 c2 c3 w) (h1 : m ∣ c1.dot v) (h2 : m ∣ c2.dot v) (h3 : m ∣ c3.dot v) : m ∣ w.dot v := by
  obtain ⟨a, b, d, k, e1, e2, e3⟩ := h
  have e : w.dot v = a * c1.dot v + b * c2.dot v + d * c3.dot v + m * k.dot v := by simp only [V3.dot]; rw [e1, e2, e3]; grind
  rw [e]
  exact Int.dvd_add (Int.dvd_add (Int.dvd_add (Int.dvd_mul_of_dvd_right h1) (Int.dvd_mul_of_dvd_right h2)) (Int.dvd_mul_of_dvd_right h3)) (Int.dvd_mul_right _ _)
def Par (m : Int) (u v : V3) : Prop := m ∣ u.x * v.y - u.y * v.x ∧ m ∣ u.y * v.z - u.z * v.y ∧ m ∣ u.z * v.x - u.x * v.z
theorem Par.self {m : Int} (u : V3) : Par m u u := ⟨⟨0, by grind⟩, ⟨0, by grind⟩, ⟨0, by grind⟩⟩
theorem par_id (a b d m c1 c2 c3 k c1' c2' c3' k' x y : Int) : (a * c1 + b * c2 + d * c3 + m * k) * y - (a * c1' + b * c2' + d * c3' + m * k') * x = a * (c1 * y - c1' * x) + b * (c2 * y - c2' * x) + d * (c3 * y - c3' * x) + m * (k * y - k' * x) := by grind
theorem Cmb.par {m : Int} {c1 c2 c3 w v : V3} (h : Cmb m c1 c2 c3 w) (h1 : Par m c1 v) (h2 : Par m c2 v) (h3 : Par m c3 v) : Par m w v := by
  obtain ⟨a, b, d, k, e1, e2, e3⟩ := h
  have key : ∀ {x y z : Int} (t : Int), m ∣ x → m ∣ y → m ∣ z → m ∣ a * x + b * y + d * z + m * t := fun t hx hy hz => Int.dvd_add (Int.dvd_add (Int.dvd_add (Int.dvd_mul_of_dvd_right hx) (Int.dvd_mul_of_dvd_right hy)) (Int.dvd_mul_of_dvd_right hz)) (Int.dvd_mul_right _ _)
  refine ⟨?_, ?_, ?_⟩
  · rw [e1, e2, par_id]; exact key _ h1.1 h2.1 h3.1
  · rw [e2, e3, par_id]; exact key _ h1.2.1 h2.2.1 h3.2.1
  · rw [e3, e1, par_id]; exact key _ h1.2.2 h2.2.2 h3.2.2
theorem bezN : ∀ b a : Nat, ∃ x y : Int, x * a + y * b = (Nat.gcd a b : Nat) := by
  intro b
  induction b using Nat.strongRecOn with
  | _ b ih =>
    intro a
    cases b with
    | zero => exact ⟨1, 0, by simp⟩
    | succ b =>
      obtain ⟨x, y, h⟩ := ih _ (Nat.mod_lt a (Nat.succ_pos b)) (b + 1)
      refine ⟨y, x - y * ((a / (b + 1) : Nat) : Int), ?_⟩
      rw [Nat.gcd_comm, Nat.gcd_rec (b + 1) a, Nat.gcd_comm, ← h]
      have e : (a : Int) = ((b + 1 : Nat) : Int) * ((a / (b + 1) : Nat) : Int) + ((a % (b + 1) : Nat) : Int) := by
        have := Nat.div_add_mod a (b + 1)
        exact_mod_cast this.symm
      generalize ((a / (b + 1) : Nat) : Int) = q at *
      generalize ((a % (b + 1) : Nat) : Int) = r at *
      rw [e]; grind
theorem bezI (a b : Int) : ∃ x y : Int, x * a + y * b = (Nat.gcd a.natAbs b.natAbs : Nat) := by
  obtain ⟨x, y, h⟩ := bezN b.natAbs a.natAbs
  refine ⟨if a < 0 then -x else x, if b < 0 then -y else y, ?_⟩
  rw [← h]
  have e : ∀ z c : Int, (if c < 0 then -z else z) * c = z * (c.natAbs : Int) := fun z c => by
    split
    · rw [show (c.natAbs : Int) = -c by omega]; grind
    · rw [show (c.natAbs : Int) = c by omega]
  rw [e, e]
theorem bez4 {m : Int} {w : V3} : ∃ a b c d : Int, a * m + b * w.x + c * w.y + d * w.z = (g4 m w : Nat) := by
  obtain ⟨a1, b1, h1⟩ := bezI m w.x
  obtain ⟨a2, b2, h2⟩ := bezI (Nat.gcd m.natAbs w.x.natAbs : Nat) w.y
  obtain ⟨a3, b3, h3⟩ := bezI (Nat.gcd (Nat.gcd m.natAbs w.x.natAbs) w.y.natAbs : Nat) w.z
  rw [Int.natAbs_natCast] at h2 h3
  refine ⟨a3 * a2 * a1, a3 * a2 * b1, a3 * b2, b3, ?_⟩
  have e : g4 m w = Nat.gcd (Nat.gcd (Nat.gcd m.natAbs w.x.natAbs) w.y.natAbs) w.z.natAbs := by simp [g4, gcdL]
  rw [e, ← h3, ← h2, ← h1]
  grind
theorem Par.dvd {m : Int} {w c : V3} (h : Par m w c) (g : g4 m w = 1) {v : V3} (hv : m ∣ w.dot v) : m ∣ c.dot v := by
  obtain ⟨a, b, d, e, hb⟩ := bez4 (m := m) (w := w)
  rw [g] at hb
  obtain ⟨⟨p1, h1⟩, ⟨p2, h2⟩, ⟨p3, h3⟩⟩ := h
  obtain ⟨k, hk⟩ := hv
  simp only [V3.dot] at hk ⊢
  -- c = (a m + b w.x + d w.y + e w.z) c
  have id1 : c.x * v.x + c.y * v.y + c.z * v.z = (a * m + b * w.x + d * w.y + e * w.z) * (c.x * v.x + c.y * v.y + c.z * v.z) := by rw [hb]; simp
  rw [id1]
  have id2 : (a * m + b * w.x + d * w.y + e * w.z) * (c.x * v.x + c.y * v.y + c.z * v.z) = (b * c.x + d * c.y + e * c.z) * (w.x * v.x + w.y * v.y + w.z * v.z) + m * (a * (c.x * v.x + c.y * v.y + c.z * v.z)) + (w.x * c.y - w.y * c.x) * (b * v.y - d * v.x) + (w.y * c.z - w.z * c.y) * (d * v.z - e * v.y) + (w.z * c.x - w.x * c.z) * (e * v.x - b * v.z) := by grind
  rw [id2, h1, h2, h3, hk]
  exact ⟨(b * c.x + d * c.y + e * c.z) * k + a * (c.x * v.x + c.y * v.y + c.z * v.z) + p1 * (b * v.y - d * v.x) + p2 * (d * v.z - e * v.y) + p3 * (e * v.x - b * v.z), by grind⟩
theorem Par.symm {m : Int} {u v : V3} (h : Par m u v) : Par m v u := by
  have e : ∀ a b c d : Int, a * b - c * d = -(d * c - b * a) := fun a b c d => by grind
  exact ⟨by rw [e]; exact Int.dvd_neg.mpr h.1, by rw [e]; exact Int.dvd_neg.mpr h.2.1, by rw [e]; exact Int.dvd_neg.mpr h.2.2⟩
theorem cols_par {q : Q} (hq : q ≠ Q.zero) : Par (Tn.of q).n (Tn.of q).cx (Tn.of q).cy ∧ Par (Tn.of q).n (Tn.of q).cy (Tn.of q).cz ∧ Par (Tn.of q).n (Tn.of q).cz (Tn.of q).cx := by
  have L := Tn.lw (T := Tn.ofQ q) (Q.size_pos hq)
  rw [show (Tn.ofQ q).low = Tn.of q from rfl] at L
  have e := L.e
  have gp := L.s
  generalize (Tn.ofQ q).g = G at *
  generalize Tn.of q = T at *
  have en : q.size = G * T.n := congrArg Tn.n e
  have k : ∀ a b c d s z : Int, G * a * (G * b) - G * c * (G * d) = q.size * (G * z) → T.n ∣ a * b - c * d := fun a b c d s z h => by
    rw [en] at h
    refine ⟨z, ?_⟩
    have h2 : G * G * (a * b - c * d) = G * G * (T.n * z) := by grind
    exact Int.eq_of_mul_eq_mul_left (Int.mul_ne_zero (by omega) (by omega)) h2
  have px := congrArg (fun T => T.p.x) e
  have py := congrArg (fun T => T.p.y) e
  have pz := congrArg (fun T => T.p.z) e
  have qx := congrArg (fun T => T.q.x) e
  have qy := congrArg (fun T => T.q.y) e
  have qz := congrArg (fun T => T.q.z) e
  have rx := congrArg (fun T => T.r.x) e
  have ry := congrArg (fun T => T.r.y) e
  have rz := congrArg (fun T => T.r.z) e
  clear e
  simp only [Tn.ofQ, Tn.sc, V3.sc] at px py pz qx qy qz rx ry rz
  unfold Par Tn.cx Tn.cy Tn.cz
  dsimp only
  refine ⟨⟨k _ _ _ _ 0 T.r.z ?_, k _ _ _ _ 0 T.p.z ?_, k _ _ _ _ 0 T.q.z ?_⟩, ⟨k _ _ _ _ 0 T.r.x ?_, k _ _ _ _ 0 T.p.x ?_, k _ _ _ _ 0 T.q.x ?_⟩, ⟨k _ _ _ _ 0 T.r.y ?_, k _ _ _ _ 0 T.p.y ?_, k _ _ _ _ 0 T.q.y ?_⟩⟩ <;>
    (simp only [← px, ← py, ← pz, ← qx, ← qy, ← qz, ← rx, ← ry, ← rz, Q.size]; clear px py pz qx qy qz rx ry rz k en; grind)
structure DialOf (T : Tn) (w : V3) : Prop where
  g : g4 T.n w = 1
  ww : T.n ∣ w.dot w
  sh : ∀ v, T.n ∣ w.dot v ↔ T.n ∣ T.cx.dot v ∧ T.n ∣ T.cy.dot v ∧ T.n ∣ T.cz.dot v
theorem DialOf.mk' {q : Q} (hq : q ≠ Q.zero) {w : V3} (hc : Cmb (Tn.of q).n (Tn.of q).cx (Tn.of q).cy (Tn.of q).cz w) (hg : g4 (Tn.of q).n w = 1) : DialOf (Tn.of q) w := by
  obtain ⟨p1, p2, p3⟩ := cols_par hq
  have d1 := hc.par (Par.self _) p1.symm p3
  have d2 := hc.par p1 (Par.self _) p2.symm
  have d3 := hc.par p3.symm p2 (Par.self _)
  have sh : ∀ v, (Tn.of q).n ∣ w.dot v ↔ (Tn.of q).n ∣ (Tn.of q).cx.dot v ∧ (Tn.of q).n ∣ (Tn.of q).cy.dot v ∧ (Tn.of q).n ∣ (Tn.of q).cz.dot v :=
    fun v => ⟨fun h => ⟨d1.dvd hg h, d2.dvd hg h, d3.dvd hg h⟩, fun h => hc.dot h.1 h.2.1 h.2.2⟩
  have mb := Tn.back_mul hq
  have e : ∀ (f : Tn → Int), f ((Tn.of q).tr.mul (Tn.of q)) = f ⟨⟨(Tn.of q).n * (Tn.of q).n, 0, 0⟩, ⟨0, (Tn.of q).n * (Tn.of q).n, 0⟩, ⟨0, 0, (Tn.of q).n * (Tn.of q).n⟩, (Tn.of q).n * (Tn.of q).n⟩ := fun f => by rw [mb]
  have nn : (Tn.of q).n ∣ (Tn.of q).n * (Tn.of q).n := ⟨_, rfl⟩
  have z : (Tn.of q).n ∣ (0 : Int) := Int.dvd_zero _
  have xx : (Tn.of q).cx.dot (Tn.of q).cx = (Tn.of q).n * (Tn.of q).n := e fun T => T.p.x
  have xy : (Tn.of q).cx.dot (Tn.of q).cy = 0 := e fun T => T.p.y
  have xz : (Tn.of q).cx.dot (Tn.of q).cz = 0 := e fun T => T.p.z
  have yx : (Tn.of q).cy.dot (Tn.of q).cx = 0 := e fun T => T.q.x
  have yy : (Tn.of q).cy.dot (Tn.of q).cy = (Tn.of q).n * (Tn.of q).n := e fun T => T.q.y
  have yz : (Tn.of q).cy.dot (Tn.of q).cz = 0 := e fun T => T.q.z
  have zx : (Tn.of q).cz.dot (Tn.of q).cx = 0 := e fun T => T.r.x
  have zy : (Tn.of q).cz.dot (Tn.of q).cy = 0 := e fun T => T.r.y
  have zz : (Tn.of q).cz.dot (Tn.of q).cz = (Tn.of q).n * (Tn.of q).n := e fun T => T.r.z
  refine ⟨hg, ?_, sh⟩
  refine hc.dot ?_ ?_ ?_
  · rw [V3.dot_comm]; exact hc.dot (by rw [xx]; exact nn) (by rw [yx]; exact z) (by rw [zx]; exact z)
  · rw [V3.dot_comm]; exact hc.dot (by rw [xy]; exact z) (by rw [yy]; exact nn) (by rw [zy]; exact z)
  · rw [V3.dot_comm]; exact hc.dot (by rw [xz]; exact z) (by rw [yz]; exact z) (by rw [zz]; exact nn)
theorem gcd_cols {q : Q} (hq : q ≠ Q.zero) : Nat.gcd (Nat.gcd (g4 (Tn.of q).n (Tn.of q).cx) (g4 (Tn.of q).n (Tn.of q).cy)) (g4 (Tn.of q).n (Tn.of q).cz) = 1 := by
  have hg := (IsT.of hq).g
  have h1 := Nat.gcd_dvd_left (Nat.gcd (g4 (Tn.of q).n (Tn.of q).cx) (g4 (Tn.of q).n (Tn.of q).cy)) (g4 (Tn.of q).n (Tn.of q).cz)
  have h2 := Nat.gcd_dvd_right (Nat.gcd (g4 (Tn.of q).n (Tn.of q).cx) (g4 (Tn.of q).n (Tn.of q).cy)) (g4 (Tn.of q).n (Tn.of q).cz)
  generalize Nat.gcd (Nat.gcd (g4 (Tn.of q).n (Tn.of q).cx) (g4 (Tn.of q).n (Tn.of q).cy)) (g4 (Tn.of q).n (Tn.of q).cz) = e at *
  have a1 := Nat.dvd_trans h1 (Nat.gcd_dvd_left _ _)
  have a2 := Nat.dvd_trans h1 (Nat.gcd_dvd_right _ _)
  have tr : ∀ {x y : Nat} {z : Int}, x ∣ y → (y : Int) ∣ z → (x : Int) ∣ z := fun h k => Int.dvd_trans (Int.ofNat_dvd.mpr h) k
  have : e ∣ gcdL (Tn.of q).all := dvd_g (tr a1 g4_x) (tr a2 g4_x) (tr h2 g4_x) (tr a1 g4_y) (tr a2 g4_y) (tr h2 g4_y) (tr a1 g4_z) (tr a2 g4_z) (tr h2 g4_z) (tr a1 g4_m)
  rw [hg] at this
  exact Nat.dvd_one.mp this
theorem run_div4 {m : Int} {w : V3} : d_divisor [.list [.int m, .int w.x, .int w.y, .int w.z]] = .ok (.val (.int (g4 m w : Nat))) := run_div0 (xs := [m, w.x, w.y, w.z]) rfl
theorem V3.mod_ok {w : V3} {m : Int} {k : Nat} (hm : 0 < m) (hb : m.natAbs < 2 ^ k) : (w.mod m).ok k := by
  have := mod_rng (a := w.x) hm; have := mod_rng (a := w.y) hm; have := mod_rng (a := w.z) hm
  exact ⟨by simp only [V3.mod]; omega, by simp only [V3.mod]; omega, by simp only [V3.mod]; omega⟩
theorem dial_col {m k : Nat} (hm : 0 < m) (mb : m < 2 ^ k) (hk : k ≤ 8000) {w c : V3} (wo : w.ok k) (co : c.ok k) (x0 x5 x6 x7 x8 x9 x4 : Option Tg.B) :
    ∃ (s : Nat) (y5 y6 y7 : Option Tg.B), forF (phi [d_columns, d_divisor, d_stripped]) (.nm 4) [.asg (.nm 5) (.call 1 [.lst [.var 1, .ix (.var 4) (.con (.int 0)), .ix (.var 4) (.con (.int 1)), .ix (.var 4) (.con (.int 2))]]), .asg (.nm 6) (.call 1 [.lst [.var 3, .var 5]]), .asg (.nm 7) (.call 2 [.bop .fdiv (.var 1) (.var 6), .bop .fdiv (.var 3) (.var 6)]), .asg (.nm 2) (.bi .tuple [.lc (.bop .mod (.bop .add (.var 8) (.bop .mul (.var 7) (.var 9))) (.var 1)) (.tp [.nm 8, .nm 9]) .zip [.var 2, .var 4] [] [8, 9]]), .asg (.nm 3) (.call 1 [.lst [.var 1, .ix (.var 2) (.con (.int 0)), .ix (.var 2) (.con (.int 1)), .ix (.var 2) (.con (.int 2))]])]
      (t3 c) [x0, some (.val (.int (m : Nat))), some (.val (t3 w)), some (.val (.int (g4 m w : Nat))), x4, x5, x6, x7, x8, x9] =
      .ok (.nx [x0, some (.val (.int (m : Nat))), some (.val (t3 ((w.plus s c).mod m))), some (.val (.int (g4 m ((w.plus s c).mod m) : Nat))), some (.val (t3 c)), y5, y6, y7, x8, x9]) ∧ g4 m ((w.plus s c).mod m) = Nat.gcd (g4 m w) (g4 m c) := by
  have gp : 0 < g4 (m : Nat) w := g4_pos (by omega)
  have up : 0 < Nat.gcd (g4 (m : Nat) w) (g4 (m : Nat) c) := Nat.gcd_pos_of_pos_left _ gp
  have gm : g4 (m : Nat) w ∣ m := Int.ofNat_dvd.mp g4_m
  have hu1 := Nat.gcd_dvd_left (g4 (m : Nat) w) (g4 (m : Nat) c)
  have gl : ∀ x y : Nat, gcdL [(x : Int), (y : Int)] = Nat.gcd x y := fun x y => by simp [gcdL]
  have dm : m / Nat.gcd (g4 (m : Nat) w) (g4 (m : Nat) c) ≤ m := Nat.div_le_self _ _
  have m9 : m < 2 ^ 9000 := Nat.lt_of_lt_of_le mb (Nat.pow_le_pow_right (by decide) (by omega))
  obtain ⟨s, e1, hs⟩ := run_stripped (a := m / Nat.gcd (g4 (m : Nat) w) (g4 (m : Nat) c)) (b := g4 (m : Nat) w / Nat.gcd (g4 (m : Nat) w) (g4 (m : Nat) c)) (Nat.div_pos (Nat.le_of_dvd hm (Nat.dvd_trans hu1 gm)) up) (Nat.div_pos (Nat.le_of_dvd gp hu1) up) (by omega)
  have st := dial_step hm (w := w) (c := c) hs
  have sb : ((s : Nat) : Int).natAbs < 2 ^ k := by
    have := Nat.le_of_dvd (Nat.div_pos (Nat.le_of_dvd hm (Nat.dvd_trans hu1 gm)) up) hs.d
    rw [Int.natAbs_natCast]; omega
  refine ⟨s, some (.val (.int (g4 m c : Nat))), some (.val (.int (Nat.gcd (g4 m w) (g4 m c) : Nat))), some (.val (.int (s : Nat))), ?_, by rw [g4_mod]; exact st⟩
  have ub : Nat.gcd (g4 (m : Nat) w) (g4 (m : Nat) c) ≤ m := Nat.le_of_dvd hm (Nat.dvd_trans hu1 gm)
  have f1 : divOk ((m : Nat) : Int) (Nat.gcd (g4 (m : Nat) w) (g4 (m : Nat) c) : Nat) = true := divOk_of (by omega) (by rw [Int.natAbs_natCast]; omega)
  have f2 : divOk ((g4 (m : Nat) w : Nat) : Int) (Nat.gcd (g4 (m : Nat) w) (g4 (m : Nat) c) : Nat) = true := divOk_of (by omega) (by rw [Int.natAbs_natCast]; omega)
  have f3 : ((m : Nat) : Int).fdiv (Nat.gcd (g4 (m : Nat) w) (g4 (m : Nat) c) : Nat) = (m / Nat.gcd (g4 (m : Nat) w) (g4 (m : Nat) c) : Nat) := by rw [fdiv_pos (by omega)]; rfl
  have f4 : ((g4 (m : Nat) w : Nat) : Int).fdiv (Nat.gcd (g4 (m : Nat) w) (g4 (m : Nat) c) : Nat) = (g4 (m : Nat) w / Nat.gcd (g4 (m : Nat) w) (g4 (m : Nat) c) : Nat) := by rw [fdiv_pos (by omega)]; rfl
  have m0 : ((m : Nat) : Int) ≠ 0 := by omega
  have md : ∀ x : Int, x.fmod (m : Nat) = x % (m : Nat) := fun x => fmod_pos (by omega)
  obtain ⟨w1, w2, w3⟩ := wo
  obtain ⟨c1, c2, c3⟩ := co
  have d4 := run_div4 (m := (m : Nat)) (w := c)
  have d5 := run_div4 (m := (m : Nat)) (w := (w.plus s c).mod m)
  have d6 : d_divisor [.list [.int (g4 (m : Nat) w : Nat), .int (g4 (m : Nat) c : Nat)]] = .ok (.val (.int (Nat.gcd (g4 (m : Nat) w) (g4 (m : Nat) c) : Nat))) := by
    rw [← gl]; exact run_div0 (xs := [((g4 (m : Nat) w : Nat) : Int), ((g4 (m : Nat) c : Nat) : Int)]) rfl
  have g0 : gcdL [((m : Nat) : Int), c.x, c.y, c.z] = g4 (m : Nat) c := rfl
  have t0 : PyData.tuple [.int ((w.x + s * c.x) % (m : Nat)), .int ((w.y + s * c.y) % (m : Nat)), .int ((w.z + s * c.z) % (m : Nat))] = t3 ((w.plus s c).mod m) := rfl
  have g1 : gcdL [((m : Nat) : Int), ((w.plus s c).mod m).x, ((w.plus s c).mod m).y, ((w.plus s c).mod m).z] = g4 (m : Nat) ((w.plus s c).mod m) := rfl
  repeat (first | walk_at "ev" | rw [g0] | rw [gl] | rw [f3] | rw [f4] | rw [e1] | rw [md] | rw [t0])
  rfl
theorem run_dial_of {q : Q} {k : Nat} (hq : q ≠ Q.zero) (ho : (Tn.of q).ok k) (hk : k ≤ 8000) : ∃ w : V3, d_dial_of [tn (Tn.of q)] = .ok (.val (.tuple [t3 w, .int (Tn.of q).n])) ∧ DialOf (Tn.of q) w ∧ (0 ≤ w.x ∧ w.x < (Tn.of q).n) ∧ (0 ≤ w.y ∧ w.y < (Tn.of q).n) ∧ 0 ≤ w.z ∧ w.z < (Tn.of q).n := by
  have hn := Tn.of_n hq
  obtain ⟨m, hm⟩ : ∃ m : Nat, (Tn.of q).n = (m : Nat) := ⟨(Tn.of q).n.toNat, by omega⟩
  have m0 : 0 < m := by omega
  have mb : m < 2 ^ k := by have := ho.2.2.2; omega
  have mb' : ((m : Nat) : Int).natAbs < 2 ^ k := by omega
  have c1o : (Tn.of q).cx.ok k := ⟨ho.1.1, ho.2.1.1, ho.2.2.1.1⟩
  have c2o : (Tn.of q).cy.ok k := ⟨ho.1.2.1, ho.2.1.2.1, ho.2.2.1.2.1⟩
  have c3o : (Tn.of q).cz.ok k := ⟨ho.1.2.2, ho.2.1.2.2, ho.2.2.1.2.2⟩
  have z : (⟨0, 0, 0⟩ : V3).ok k := ⟨Nat.pow_pos (by decide), Nat.pow_pos (by decide), Nat.pow_pos (by decide)⟩
  obtain ⟨s1, a5, a6, a7, e1, h1⟩ := dial_col (k := k) m0 mb hk z c1o (some (.val (tn (Tn.of q)))) none none none none none none
  obtain ⟨s2, b5, b6, b7, e2, h2⟩ := dial_col (k := k) m0 mb hk (V3.mod_ok (by omega) mb') c2o (some (.val (tn (Tn.of q)))) a5 a6 a7 none none (some (.val (t3 (Tn.of q).cx)))
  obtain ⟨s3, d5, d6, d7, e3, h3⟩ := dial_col (k := k) m0 mb hk (V3.mod_ok (by omega) mb') c3o (some (.val (tn (Tn.of q)))) b5 b6 b7 none none (some (.val (t3 (Tn.of q).cy)))
  have g0 : g4 (m : Nat) ⟨0, 0, 0⟩ = m := by simp [g4, gcdL]
  rw [g0] at e1 h1
  rw [h1] at h2
  rw [h2] at h3
  have hC := ((((((Cmb.zero (m := m) (c1 := (Tn.of q).cx) (c2 := (Tn.of q).cy) (c3 := (Tn.of q).cz)).plus (n := s1) (.inl rfl)).mod).plus (n := s2) (.inr (.inl rfl))).mod).plus (n := s3) (.inr (.inr rfl))).mod
  refine ⟨(((((V3.plus ⟨0, 0, 0⟩ s1 (Tn.of q).cx).mod m).plus s2 (Tn.of q).cy).mod m).plus s3 (Tn.of q).cz).mod m, ?_, ?_⟩
  · refine o_dial_of ?_
    unfold b_dial_of
    have t0 : PyData.tuple [.int 0, .int 0, .int 0] = t3 ⟨0, 0, 0⟩ := rfl
    generalize hf : ([.asg (.nm 5) (.call 1 [.lst [.var 1, .ix (.var 4) (.con (.int 0)), .ix (.var 4) (.con (.int 1)), .ix (.var 4) (.con (.int 2))]]), .asg (.nm 6) (.call 1 [.lst [.var 3, .var 5]]), .asg (.nm 7) (.call 2 [.bop .fdiv (.var 1) (.var 6), .bop .fdiv (.var 3) (.var 6)]), .asg (.nm 2) (.bi .tuple [.lc (.bop .mod (.bop .add (.var 8) (.bop .mul (.var 7) (.var 9))) (.var 1)) (.tp [.nm 8, .nm 9]) .zip [.var 2, .var 4] [] [8, 9]]), .asg (.nm 3) (.call 1 [.lst [.var 1, .ix (.var 2) (.con (.int 0)), .ix (.var 2) (.con (.int 1)), .ix (.var 2) (.con (.int 2))]])] : List S) = F at e1 e2 e3 ⊢
    simp only [forF_eq, bindT_nm, bind_ok, List.set_cons_succ, List.set_cons_zero] at e1 e2 e3
    repeat (first | walk_at "ev" | rw [hm] | rw [t0] | rw [e1] | rw [e2] | rw [e3])
  · refine ⟨DialOf.mk' hq (by rw [hm]; exact hC) ?_, ?_⟩
    · rw [hm, h3]
      have := gcd_cols hq
      rw [hm] at this
      have k1 : Nat.gcd m (g4 (m : Nat) (Tn.of q).cx) = g4 (m : Nat) (Tn.of q).cx := Nat.gcd_eq_right (Int.ofNat_dvd.mp g4_m)
      rw [k1]; exact this
    · rw [hm]
      exact ⟨mod_rng (show (0 : Int) < (m : Nat) by omega), mod_rng (show (0 : Int) < (m : Nat) by omega), mod_rng (show (0 : Int) < (m : Nat) by omega)⟩
end Lb
namespace Lb
open PySem Tg
end Lb
namespace Lb
open PySem Tg
local macro_rules | `(tactic| walk_at "bd") => `(tactic| first | assumption | exact near_b3 | exact near_b6 | exact near_b9 | exact near_b999 | exact near_b1000 | exact near_b12 | exact near_b15 | exact near_b20 | exact near_b30 | exact near_b60 | exact bd_lit rfl (by decide) | (refine' bd_add ?h1 ?h2; (case h1 => walk_at "bd"); (case h2 => walk_at "bd")) | (refine' bd_sub ?h1 ?h2; (case h1 => walk_at "bd"); (case h2 => walk_at "bd")) | (refine' bd_mul ?h1 ?h2; (case h1 => walk_at "bd"); (case h2 => walk_at "bd")) | (refine' bd_neg ?_; walk_at "bd"))
local macro_rules | `(tactic| walk_at "ok") => `(tactic| first | assumption | decide | (refine line_lt ?_; (first | omega | (simp only [List.length_map, List.length_set, List.length_append, List.length_cons, List.length_nil, List.length_reverse]; omega))) | (refine' mulOk_of ?h1 ?h2 ?h3; (case h1 => walk_at "bd"); (case h2 => walk_at "bd"); (case h3 => first | decide | omega | (simp only [Nat.max_def]; first | decide | omega))) | (refine divOk_of ?_ ?_ <;> first | assumption | decide +kernel | omega) | omega | (simp -implicitDefEqProofs only [allI_nil, allI_cons, allI_map, allI_app, Bool.and_self, Bool.and_true]; done))
def Dq5 (d : D) (g : Nat) (ρ : En) : Prop := ∃ z y x, ρ = [some (.val d), some (.val (.int g)), z, y, x]
local macro_rules | `(tactic| walk_at "ev") => `(tactic| simp -implicitDefEqProofs (disch := walk_at "ok") only [exL_nil, exL_cons, next_nx, next_rt, next_ct, next_ex, S_asg, S_set, S_put, S_app, S_ite, S_for, S_whl, S_ret, S_cont, S_pass, S_frz, S_raise, put_own, putK_i, app_own, frz_nil, frz_cons, frzK_own, frzK_val, E_var, E_con, E_glob, E_tup, E_lst, E_rep, E_bop, E_neg, E_not, E_and, E_or, E_cmp, E_ix, E_sl, E_bi, E_isi, E_call, E_lc, lcO_ok, L_nil, L_cons, Bs_nil, Bs_cons, bor_var, bor_con, bor_glob, bor_tup, bor_lst, bor_rep, bor_bop, bor_neg, bor_not, bor_and, bor_or, bor_cmp, bor_ix, bor_sl, bor_sl3, bor_inr, bor_call0, bor_bi, bor_isi, bor_call, bor_lc, lookE_val, lookB_val, lookB_own, valM_ok, valM_stuck, valM_ex, d_val, d_own, negD_i, notD_b, andD_t, andD_f, orD_t, orD_f, andD_b, orD_b, add_ii, sub_ii, mul_ii', fdiv_ii', mod_ii', pow10_9, pow10_10, pow10_12, pow10_15, pow10_20, pow10_30, pow10_60, pow10_120, add_ll, add_tt, lt_ii, le_ii, gt_ii, ge_ii, eq_ii, ne_ii, isN_d, notN_d, isB_bb, notB_bb, ix_l, ix_t, ixO_some, at_0, at_1, at_2, at_3, iteD_t, iteD_f, iteD_b, ret_var, retV_b, end_rt, end_nx, end_ex, ret_con, ret_glob, ret_tup, ret_lst, ret_rep, ret_bop, ret_neg, ret_not, ret_and, ret_or, ret_cmp, ret_ix, ret_sl, ret_sl3, ret_inr, ret_call0, safe_ok, inr_t, inr_f, S_tri, tri_ok, tri_ex, su_nil, su_cons, suD_is, suD_con, suD_two, suD_lst, suD_cat, suCat_l, E_sl3, E_inr, E_call0, mul_ti, List.map_cons, List.map_nil, ret_bi, ret_isi, ret_call, ret_lc, isi_ii, isi_ib, isi_it, isi_il, isi_in, isi_bi, isi_bb, isi_tt, isi_tl, isi_ti, isi_tn, isi_ll, isi_lt, bi_abs, bi_len_l, bi_len_t, bi_int_i, bi_int_b, bi_list_l, bi_list_t, bi_tuple_l, bi_tuple_t, bi_sum, bi_all, sumO_some, allO_some, bi_min2, bi_max2, phi_0, phi_1, phi_2, phi_s, bindT_nm, bindT_tp, bindT_tl, bindTs_nil, bindTs_cons, it_seq, it_zip_t, it_zip_l, it_rev, itL, itT, turn_0, turn_t, turn_f, wipe_nil, wipe_cons, forF_eq, whlC_eq, whlF_eq, lcF_eq, bind_ok, bind_stuck, bind_ex, List.set_cons_zero, List.set_cons_succ, List.getElem?_cons_zero, List.getElem?_cons_succ, if_true, if_false, Bool.false_eq_true, part_0, part_1, sl_l, sl_t, nonD, Bool.not_true, Bool.not_false, Bool.and_true, Bool.true_and, Bool.and_false, Bool.false_and, Bool.or_true, Bool.true_or, Bool.or_false, Bool.false_or, Int.cast_ofNat_Int, beq_self_eq_true, decide_true, decide_false, Int.neg_neg, Int.zero_add, Int.add_zero, line_lt, small_i, it_rng1, it_rng2, eq_self, for_nil, for_cons, forK_nx, forK_ct, forK_rt, lc_nil, lc_cons, lcK_some, lcK_none, rng_3, rng_4, run_whole, run_cell, run_near, vals_nil, vals_cons, vals_map, allI_nil, allI_cons, allI_map, allI_app, vals_app, run_divl, run_divt, run_ldivl, run_ldivt, run_euclid, ints_all, List.length_cons, List.length_nil, List.length_map, List.length_append, List.cons_append, List.nil_append, List.length_set, List.length_reverse, go_nx, go_ct, ret_ok, run_mirrored, app_ok, ix_q0, ix_q1, ix_q2, ix_q3, run_qsame, rng_0, rng_1, rng_2, turn_b, Q.vs_len, isi_q, len_q, seq_q, ne_q, eq_q, ne_q0, ne_li, eq_li, ix_v0, ix_v1, ix_v2, ix_m0, ix_m1, ix_m2, ix_n0, ix_n1, seq_v, seq_m, isi_v, isi_m, isi_n, len_v, len_m, len_n, list_v, bind_v, bind_m, bind_n, bind_q, add_vv, add_tv, set4_0, set4_1, set4_2, set4_3, set3_0, set3_1, set3_2, all_3, all_4, bools_3, bools_4, run_ldivq, run_divq, sum3, sum4, eq_nn, zip_v, tup_v, ne_rows, lcK_if, run_columns, run_back, run_lnumber, ne_nn, nonD_t3, nonD_tl, forK_ex, ne_vs, eq_vs, eq_sr, ne_sr, ix_s0, ix_s1, ix_s2, ix_t0, ix_t1, ix_t2, rx_a, rx_b, rx_c, rx_0, rx_d, rx_e, rx_1, rx_2, rx_f, reduceIte, Nat.reduceAdd, Int.reduceBEq, Int.reduceToNat, Int.reduceMul, Int.reduceAdd, Int.reduceSub, Int.reduceLT, Int.reduceLE, Int.reduceFMod, Int.reduceFDiv, Int.reduceNeg])
theorem run_ldiv20 {d : D} {xs : List Int} (h : seqD d = .ok (xs.map PyData.int)) : d_ldiv2 [d] = .ok (.val (.int (gcdL xs))) := by
  refine o_ldiv2 ?_
  unfold b_ldiv2
  walk_at "ev"
  rw [h]
  walk_at "ev"
  obtain ⟨ρ1, h1, h2⟩ := for_fold (f := forF (phi []) (.nm 2) [.asg (.nm 3) (.bi .abs [.var 2]), .whl (.cmp .ne (.var 3) (.con (.int 0))) [.asg (.nm 4) (.bop .mod (.var 1) (.var 3)), .asg (.nm 1) (.var 3), .asg (.nm 3) (.var 4)]]) (g := PyData.int) (step := fun g x => Nat.gcd g x.natAbs) (xs := xs) (s := 0) (ρ := [some (.val d), some (.val (.int 0)), none, none, none]) (Dq5 d)
    (fun x _ g ρ ⟨z, y, w, e⟩ => by
      subst e
      have E := euclid (c := whlC (phi []) (.cmp .ne (.var 3) (.con (.int 0)))) (f := whlF (phi []) [.asg (.nm 4) (.bop .mod (.var 1) (.var 3)), .asg (.nm 1) (.var 3), .asg (.nm 3) (.var 4)]) (fun a b => [some (.val d), some (.val (.int (a : Nat))), some (.val (.int x)), some (.val (.int (b : Nat))), some (.val (.int (b : Nat)))]) (fun a => by walk_at "ev") (fun a b => by walk_at "ev"; rw [nat_ne]) (fun a b => by (have : ((b + 1 : Nat) : Int) ≠ 0 := (by omega)); walk_at "ev"; rw [fmod_nat])
      cases hx : x.natAbs with
      | zero =>
        refine ⟨[some (.val d), some (.val (.int (g : Nat))), some (.val (.int x)), some (.val (.int 0)), w], .inl ?_, _, _, _, by rw [Nat.gcd_zero_right]⟩
        walk_at "ev"
        rw [abs_nat, hx, whlD_false (by walk_at "ev")]
        walk_at "ev"
      | succ b =>
        refine ⟨[some (.val d), some (.val (.int (Nat.gcd g (b + 1)))), some (.val (.int x)), some (.val (.int 0)), some (.val (.int 0))], .inl ?_, _, _, _, rfl⟩
        have hb : ((b + 1 : Nat) : Int) ≠ 0 := by omega
        walk_at "ev"
        rw [abs_nat, hx, whlD_true (ρ1 := [some (.val d), some (.val (.int ((b + 1 : Nat) : Nat))), some (.val (.int x)), some (.val (.int (g % (b + 1) : Nat))), some (.val (.int (g % (b + 1) : Nat)))]) (by walk_at "ev"; rw [nat_ne]) (by walk_at "ev"; rw [fmod_nat]) (E _ _) (fun z => nomatch z)]
        walk_at "ev"
        rw [Nat.gcd_comm (b + 1), ← Nat.gcd_rec, Nat.gcd_comm]) ⟨_, _, _, rfl⟩
  rw [h1]
  obtain ⟨z, y, w, rfl⟩ := h2
  walk_at "ev"
  rfl
theorem run_ldiv2l {ds : List D} (h : allI ds = true) : d_ldiv2 [.list ds] = .ok (.val (.int (gcdL (valsD ds)))) := run_ldiv20 (by rw [itL, ← vals_eq h])
theorem run_ldiv2t {ds : List D} (h : allI ds = true) : d_ldiv2 [.tuple ds] = .ok (.val (.int (gcdL (valsD ds)))) := run_ldiv20 (by rw [itT, ← vals_eq h])
def Shd (T : Tn) (v : V3) : Prop := T.n ∣ T.cx.dot v ∧ T.n ∣ T.cy.dot v ∧ T.n ∣ T.cz.dot v
instance Shd.dec (T : Tn) (v : V3) : Decidable (Shd T v) := inferInstanceAs (Decidable (_ ∧ _ ∧ _))
theorem ne_bb {a b : Bool} : cmpD .ne (.bool a) (.bool b) = .ok (.val (.bool (!decide (a = b)))) := by cases a <;> cases b <;> rfl
theorem eq_bb {a b : Bool} : cmpD .eq (.bool a) (.bool b) = .ok (.val (.bool (decide (a = b)))) := by cases a <;> cases b <;> rfl
end Lb
namespace Lb
open PySem Tg
def b_stone_product : List S :=
   [.ret (.bi .tuple [.lc (.bop .fdiv (.var 2) (.con (.int 2))) (.nm 2) .seq [.call 0 [.var 0, .var 1]] [] [2]])]
noncomputable def d_stone_product : List D → M B := runF (phi [d_product]) 2 3 b_stone_product
theorem o_stone_product {x0 x1 : D} {r : M B} (h : endD (exL (phi [d_product]) b_stone_product [some (.val x0), some (.val x1), none]) = r) : d_stone_product [x0, x1] = r := run_of rfl rfl h
def b_weight : List S :=
   [.ret (.bop .fdiv (.call 0 [.var 0]) (.con (.int 4)))]
noncomputable def d_weight : List D → M B := runF (phi [d_size]) 1 1 b_weight
theorem o_weight {x0 : D} {r : M B} (h : endD (exL (phi [d_size]) b_weight [some (.val x0)]) = r) : d_weight [x0] = r := run_of rfl rfl h
def b_stone_less : List S :=
   [.ret (.bi .tuple [.lc (.bop .sub (.var 2) (.var 3)) (.tp [.nm 2, .nm 3]) .zip [.var 0, .var 1] [] [2, 3]])]
noncomputable def d_stone_less : List D → M B := runF (phi []) 2 4 b_stone_less
theorem o_stone_less {x0 x1 : D} {r : M B} (h : endD (exL (phi []) b_stone_less [some (.val x0), some (.val x1), none, none]) = r) : d_stone_less [x0, x1] = r := run_of rfl rfl h
def b_divided : List S :=
   [.asg (.nm 2) (.call 0 [.var 1]),
    .ite (.cmp .eq (.var 2) (.con (.int 0))) [.raise 1] [],
    .asg (.nm 3) (.call 1 [.call 2 [.var 1], .var 0]),
    .asg (.nm 4) (.bi .tuple [.lc (.bop .mul (.con (.int 2)) (.bop .fdiv (.bop .add (.var 8) (.var 2)) (.bop .mul (.con (.int 2)) (.var 2)))) (.nm 8) .seq [.var 3] [] [8]]),
    .asg (.nm 5) (.bi .tuple [.lc (.bop .add (.bop .mul (.con (.int 2)) (.bop .fdiv (.var 8) (.bop .mul (.con (.int 2)) (.var 2)))) (.con (.int 1))) (.nm 8) .seq [.var 3] [] [8]]),
    .asg (.nm 6) (.call 3 [.var 0, .call 1 [.var 1, .var 4]]),
    .asg (.nm 7) (.call 3 [.var 0, .call 1 [.var 1, .var 5]]),
    .ite (.cmp .lt (.call 0 [.var 7]) (.call 0 [.var 6])) [.ret (.tup [.var 5, .var 7])] [],
    .ret (.tup [.var 4, .var 6])]
noncomputable def d_divided : List D → M B := runF (phi [d_weight, d_stone_product, d_mirrored, d_stone_less]) 2 9 b_divided
theorem o_divided {x0 x1 : D} {r : M B} (h : endD (exL (phi [d_weight, d_stone_product, d_mirrored, d_stone_less]) b_divided [some (.val x0), some (.val x1), none, none, none, none, none, none, none]) = r) : d_divided [x0, x1] = r := run_of rfl rfl h
def b_common : List S :=
   [.asg (.tp [.nm 2, .nm 3, .nm 4]) (.tup [.var 0, .glob 0 (.tuple [(.int 2), (.int 0), (.int 0), (.int 0)]), .glob 1 (.tuple [(.int 0), (.int 0), (.int 0), (.int 0)])]),
    .asg (.tp [.nm 5, .nm 6, .nm 7]) (.tup [.var 1, .glob 1 (.tuple [(.int 0), (.int 0), (.int 0), (.int 0)]), .glob 0 (.tuple [(.int 2), (.int 0), (.int 0), (.int 0)])]),
    .whl (.cmp .gt (.call 0 [.var 5]) (.con (.int 0))) [.asg (.tp [.nm 8, .nm 9]) (.call 1 [.var 2, .var 5]), .asg (.tp [.nm 2, .nm 5]) (.tup [.var 5, .var 9]), .asg (.tp [.nm 3, .nm 6]) (.tup [.var 6, .call 2 [.var 3, .call 3 [.var 6, .var 8]]]), .asg (.tp [.nm 4, .nm 7]) (.tup [.var 7, .call 2 [.var 4, .call 3 [.var 7, .var 8]]])],
    .ite (.cmp .eq (.call 0 [.var 2]) (.con (.int 0))) [.ret (.tup [.var 2, .var 3, .var 4, .glob 1 (.tuple [(.int 0), (.int 0), (.int 0), (.int 0)]), .glob 1 (.tuple [(.int 0), (.int 0), (.int 0), (.int 0)])])] [],
    .ret (.tup [.var 2, .var 3, .var 4, .ix (.call 1 [.var 0, .var 2]) (.con (.int 0)), .ix (.call 1 [.var 1, .var 2]) (.con (.int 0))])]
noncomputable def d_common : List D → M B := runF (phi [d_weight, d_divided, d_stone_less, d_stone_product]) 2 10 b_common
theorem o_common {x0 x1 : D} {r : M B} (h : endD (exL (phi [d_weight, d_divided, d_stone_less, d_stone_product]) b_common [some (.val x0), some (.val x1), none, none, none, none, none, none, none, none]) = r) : d_common [x0, x1] = r := run_of rfl rfl h
end Lb
namespace Lb
open PySem Tg
local macro_rules | `(tactic| walk_at "bd") => `(tactic| first | assumption | exact near_b3 | exact near_b6 | exact near_b9 | exact near_b999 | exact near_b1000 | exact near_b12 | exact near_b15 | exact near_b20 | exact near_b30 | exact near_b60 | exact bd_lit rfl (by decide) | (refine' bd_add ?h1 ?h2; (case h1 => walk_at "bd"); (case h2 => walk_at "bd")) | (refine' bd_sub ?h1 ?h2; (case h1 => walk_at "bd"); (case h2 => walk_at "bd")) | (refine' bd_mul ?h1 ?h2; (case h1 => walk_at "bd"); (case h2 => walk_at "bd")) | (refine' bd_neg ?_; walk_at "bd"))
local macro_rules | `(tactic| walk_at "ok") => `(tactic| first | assumption | decide | (refine line_lt ?_; (first | omega | (simp only [List.length_map, List.length_set, List.length_append, List.length_cons, List.length_nil, List.length_reverse]; omega))) | (refine' mulOk_of ?h1 ?h2 ?h3; (case h1 => walk_at "bd"); (case h2 => walk_at "bd"); (case h3 => first | decide | omega | (simp only [Nat.max_def]; first | decide | omega))) | (refine divOk_of ?_ ?_ <;> first | assumption | decide +kernel | omega) | omega | (simp -implicitDefEqProofs only [allI_nil, allI_cons, allI_map, allI_app, Bool.and_self, Bool.and_true]; done))
def St (q : Q) : Prop := q.a % 2 = q.b % 2 ∧ q.a % 2 = q.c % 2 ∧ q.a % 2 = q.d % 2
def Q.half (q : Q) : Q := ⟨q.a / 2, q.b / 2, q.c / 2, q.d / 2⟩
def hm (p q : Q) : Q := (p.mul q).half
def Q.sub (p q : Q) : Q := ⟨p.a - q.a, p.b - q.b, p.c - q.c, p.d - q.d⟩
def wt (q : Q) : Int := q.size / 4
theorem St.split {q : Q} (h : St q) : ∃ (s : Int) (r : Q), (s = 0 ∨ s = 1) ∧ q = ⟨2 * r.a + s, 2 * r.b + s, 2 * r.c + s, 2 * r.d + s⟩ := by
  obtain ⟨h1, h2, h3⟩ := h
  refine ⟨q.a % 2, ⟨q.a / 2, q.b / 2, q.c / 2, q.d / 2⟩, by omega, ?_⟩
  cases q
  simp only [Q.mk.injEq] at *
  omega
theorem st_mk (s : Int) (r : Q) : St ⟨2 * r.a + s, 2 * r.b + s, 2 * r.c + s, 2 * r.d + s⟩ := by
  unfold St; dsimp only; omega
theorem st_sub {p q : Q} (hp : St p) (hq : St q) : St (p.sub q) := by
  obtain ⟨a1, a2, a3⟩ := hp
  obtain ⟨b1, b2, b3⟩ := hq
  unfold St Q.sub; dsimp only; omega
theorem st_add {p q : Q} (hp : St p) (hq : St q) : St (p.add q) := by
  obtain ⟨a1, a2, a3⟩ := hp
  obtain ⟨b1, b2, b3⟩ := hq
  unfold St Q.add; dsimp only; omega
theorem st_conj {p : Q} (hp : St p) : St p.conj := by
  obtain ⟨a1, a2, a3⟩ := hp
  unfold St Q.conj; dsimp only; omega
theorem hm_spec {p q : Q} (hp : St p) (hq : St q) : p.mul q = Q.sc 2 (hm p q) ∧ St (hm p q) := by
  obtain ⟨s, r, hs, rfl⟩ := hp.split
  obtain ⟨t, u, ht, rfl⟩ := hq.split
  have e : ∀ x y : Int, x = 2 * y → x / 2 = y := fun x y h => by omega
  have key : ∃ A B C D : Int, ((⟨2 * r.a + s, 2 * r.b + s, 2 * r.c + s, 2 * r.d + s⟩ : Q).mul ⟨2 * u.a + t, 2 * u.b + t, 2 * u.c + t, 2 * u.d + t⟩) = ⟨2 * A, 2 * B, 2 * C, 2 * D⟩ ∧ A % 2 = B % 2 ∧ A % 2 = C % 2 ∧ A % 2 = D % 2 := by
    refine ⟨2 * (r.a * u.a - r.b * u.b - r.c * u.c - r.d * u.d) + t * (r.a - r.b - r.c - r.d) + s * (u.a - u.b - u.c - u.d) - s * t,
      2 * (r.a * u.b + r.b * u.a + r.c * u.d - r.d * u.c) + t * (r.a + r.b + r.c - r.d) + s * (u.b + u.a + u.d - u.c) + s * t,
      2 * (r.a * u.c - r.b * u.d + r.c * u.a + r.d * u.b) + t * (r.a - r.b + r.c + r.d) + s * (u.c - u.d + u.a + u.b) + s * t,
      2 * (r.a * u.d + r.b * u.c - r.c * u.b + r.d * u.a) + t * (r.a + r.b - r.c + r.d) + s * (u.d + u.c - u.b + u.a) + s * t, ?_, ?_⟩
    · simp only [Q.mul, Q.mk.injEq]
      refine ⟨by grind, by grind, by grind, by grind⟩
    · rcases hs with rfl | rfl <;> rcases ht with rfl | rfl <;> omega
  obtain ⟨A, B, C, D, h1, h2, h3, h4⟩ := key
  unfold hm
  rw [h1]
  unfold Q.half
  dsimp only
  rw [e _ _ rfl, e _ _ rfl, e _ _ rfl, e _ _ rfl]
  exact ⟨rfl, h2, h3, h4⟩
theorem hm_eq {p q r : Q} (h : p.mul q = Q.sc 2 r) : hm p q = r := by
  unfold hm Q.half
  rw [h]
  cases r
  simp only [Q.sc, Q.mk.injEq]
  omega
theorem Q.sc_mul (s : Int) (p q : Q) : (Q.sc s p).mul q = Q.sc s (p.mul q) := by
  simp only [Q.sc, Q.mul, Q.mk.injEq]; refine ⟨by grind, by grind, by grind, by grind⟩
theorem Q.mul_sc (s : Int) (p q : Q) : p.mul (Q.sc s q) = Q.sc s (p.mul q) := by
  simp only [Q.sc, Q.mul, Q.mk.injEq]; refine ⟨by grind, by grind, by grind, by grind⟩
theorem Q.sc2_inj {p q : Q} (h : Q.sc 2 p = Q.sc 2 q) : p = q := Q.sc_inj (by decide) h
theorem hm_assoc {p q r : Q} (hp : St p) (hq : St q) (hr : St r) : hm (hm p q) r = hm p (hm q r) := by
  obtain ⟨e1, s1⟩ := hm_spec hp hq
  obtain ⟨e2, s2⟩ := hm_spec hq hr
  obtain ⟨e3, _⟩ := hm_spec s1 hr
  obtain ⟨e4, _⟩ := hm_spec hp s2
  have h1 : Q.sc 2 (Q.sc 2 (hm (hm p q) r)) = Q.sc 2 (Q.sc 2 (hm p (hm q r))) := by
    rw [← e3, ← Q.sc_mul, ← e1, Q.mul_assoc, e2, Q.mul_sc, e4]
  exact Q.sc2_inj (Q.sc2_inj h1)
theorem Q.sub_mul (p q r : Q) : (p.sub q).mul r = (p.mul r).sub (q.mul r) := by
  simp only [Q.sub, Q.mul, Q.mk.injEq]; refine ⟨by grind, by grind, by grind, by grind⟩
theorem Q.mul_sub (p q r : Q) : p.mul (q.sub r) = (p.mul q).sub (p.mul r) := by
  simp only [Q.sub, Q.mul, Q.mk.injEq]; refine ⟨by grind, by grind, by grind, by grind⟩
theorem Q.add_mul (p q r : Q) : (p.add q).mul r = (p.mul r).add (q.mul r) := by
  simp only [Q.add, Q.mul, Q.mk.injEq]; refine ⟨by grind, by grind, by grind, by grind⟩
theorem Q.sc_sub (s : Int) (p q : Q) : Q.sc s (p.sub q) = (Q.sc s p).sub (Q.sc s q) := by
  simp only [Q.sub, Q.sc, Q.mk.injEq, Int.mul_sub, true_and, and_self]
theorem Q.sc_add (s : Int) (p q : Q) : Q.sc s (p.add q) = (Q.sc s p).add (Q.sc s q) := by
  simp only [Q.add, Q.sc, Q.mk.injEq, Int.mul_add, true_and, and_self]
theorem hm_sub_r {p q r : Q} (hp : St p) (hq : St q) (hr : St r) : hm p (q.sub r) = (hm p q).sub (hm p r) := hm_eq (by rw [Q.mul_sub, (hm_spec hp hq).1, (hm_spec hp hr).1, Q.sc_sub])
theorem hm_add_r {p q r : Q} (hp : St p) (hq : St q) (hr : St r) : hm p (q.add r) = (hm p q).add (hm p r) := hm_eq (by rw [Q.mul_add, (hm_spec hp hq).1, (hm_spec hp hr).1, Q.sc_add])
theorem hm_add_l {p q r : Q} (hp : St p) (hq : St q) (hr : St r) : hm (p.add q) r = (hm p r).add (hm q r) := hm_eq (by rw [Q.add_mul, (hm_spec hp hr).1, (hm_spec hq hr).1, Q.sc_add])
def sOne : Q := ⟨2, 0, 0, 0⟩
def sNo : Q := ⟨0, 0, 0, 0⟩
theorem st_one : St sOne := by unfold St sOne; decide
theorem st_no : St sNo := by unfold St sNo; decide
theorem hm_one (p : Q) : hm p sOne = p := hm_eq (by cases p; simp only [Q.mul, sOne, Q.sc, Q.mk.injEq]; omega)
theorem hm_no (p : Q) : hm p sNo = sNo := hm_eq (by simp [Q.mul, sNo, Q.sc])
theorem wt_spec {p : Q} (hp : St p) : p.size = 4 * wt p := by
  obtain ⟨s, r, hs, rfl⟩ := hp.split
  have : (⟨2 * r.a + s, 2 * r.b + s, 2 * r.c + s, 2 * r.d + s⟩ : Q).size = 4 * (r.a * r.a + r.b * r.b + r.c * r.c + r.d * r.d + s * (r.a + r.b + r.c + r.d) + s * s) := by simp only [Q.size]; grind
  unfold wt
  rw [this]; omega
theorem wt_hm {p q : Q} (hp : St p) (hq : St q) : wt (hm p q) = wt p * wt q := by
  obtain ⟨e1, s1⟩ := hm_spec hp hq
  have h1 := wt_spec s1
  have h2 := wt_spec hp
  have h3 := wt_spec hq
  have h4 : (p.mul q).size = p.size * q.size := Q.size_mul p q
  rw [e1, size_sc, h1, h2, h3] at h4
  have : 16 * wt (hm p q) = 16 * (wt p * wt q) := by
    have : 2 * 2 * (4 * wt (hm p q)) = 4 * wt p * (4 * wt q) := h4
    grind
  omega
theorem wt_conj (p : Q) : wt p.conj = wt p := by
  unfold wt; congr 1; simp only [Q.size, Q.conj]; grind
theorem size_nn (p : Q) : 0 ≤ p.size := by
  have := sq_nn p.a; have := sq_nn p.b; have := sq_nn p.c; have := sq_nn p.d
  unfold Q.size; omega
theorem wt_nn (p : Q) : 0 ≤ wt p := Int.ediv_nonneg (size_nn p) (by decide)
theorem wt_pos {p : Q} (hp : St p) (h : p ≠ sNo) : 0 < wt p := by
  have h1 := wt_spec hp
  have h2 := Q.size_pos (show p ≠ Q.zero from h)
  omega
theorem wt_zero {p : Q} (hp : St p) (h : wt p = 0) : p = sNo := Classical.byContradiction fun hn => by have := wt_pos hp hn; omega
theorem wt_no : wt sNo = 0 := rfl
theorem conj_hm (p : Q) : hm p.conj p = ⟨p.size / 2, 0, 0, 0⟩ := by
  unfold hm Q.half
  have : p.conj.mul p = ⟨p.size, 0, 0, 0⟩ := by
    simp only [Q.conj, Q.mul, Q.size, Q.mk.injEq]; refine ⟨by grind, by grind, by grind, by grind⟩
  rw [this]; rfl
theorem conj_hm' {p : Q} (hp : St p) : hm p.conj p = ⟨2 * wt p, 0, 0, 0⟩ := by
  rw [conj_hm, wt_spec hp, show 4 * wt p / 2 = 2 * wt p by omega]
theorem whole_hm (n : Int) (p : Q) : hm ⟨2 * n, 0, 0, 0⟩ p = Q.sc n p := hm_eq (by cases p; simp only [Q.mul, Q.sc, Q.mk.injEq]; refine ⟨by grind, by grind, by grind, by grind⟩)
theorem hm_whole (n : Int) (p : Q) : hm p ⟨2 * n, 0, 0, 0⟩ = Q.sc n p := hm_eq (by cases p; simp only [Q.mul, Q.sc, Q.mk.injEq]; refine ⟨by grind, by grind, by grind, by grind⟩)
theorem st_whole (n : Int) : St ⟨2 * n, 0, 0, 0⟩ := by unfold St; dsimp only; omega
def evn (N x : Int) : Int := 2 * ((x + N) / (2 * N))
def odd1 (N x : Int) : Int := 2 * (x / (2 * N)) + 1
def evQ (N : Int) (f : Q) : Q := ⟨evn N f.a, evn N f.b, evn N f.c, evn N f.d⟩
def odQ (N : Int) (f : Q) : Q := ⟨odd1 N f.a, odd1 N f.b, odd1 N f.c, odd1 N f.d⟩
theorem st_ev (N : Int) (f : Q) : St (evQ N f) := by unfold St evQ evn; dsimp only; omega
theorem st_od (N : Int) (f : Q) : St (odQ N f) := by unfold St odQ odd1; dsimp only; omega
theorem near_two {N x : Int} (hN : 0 < N) : (x - N * evn N x) * (x - N * evn N x) + (x - N * odd1 N x) * (x - N * odd1 N x) ≤ N * N := by
  unfold evn odd1
  have e1 := Int.mul_ediv_add_emod (x + N) (2 * N)
  have e2 := Int.mul_ediv_add_emod x (2 * N)
  have r1 := mod_rng (a := x + N) (b := 2 * N) (by omega)
  have r2 := mod_rng (a := x) (b := 2 * N) (by omega)
  generalize (x + N) % (2 * N) = r at *
  generalize x % (2 * N) = t at *
  generalize hk : (x + N) / (2 * N) = k at *
  generalize hl : x / (2 * N) = l at *
  have d1 : x - N * (2 * k) = r - N := by
    have : N * (2 * k) = 2 * N * k := by grind
    omega
  have d2 : x - N * (2 * l + 1) = t - N := by
    have : N * (2 * l + 1) = 2 * N * l + N := by grind
    omega
  rw [d1, d2]
  -- t is r - N or r + N
  have hrt : r = t + N ∨ r = t - N := by
    have : 2 * N * k + r = 2 * N * l + t + N := by omega
    rcases Int.lt_trichotomy k l with h | h | h
    · have : 2 * N * (k + 1) ≤ 2 * N * l := Int.mul_le_mul_of_nonneg_left (by omega) (by omega)
      rw [Int.mul_add] at this; omega
    · subst h; left; omega
    · have h1 : 2 * N * (l + 1) ≤ 2 * N * k := Int.mul_le_mul_of_nonneg_left (by omega) (by omega)
      rw [Int.mul_add] at h1
      by_cases h2 : k = l + 1
      · subst h2; rw [Int.mul_add] at this; right; omega
      · have h3 : 2 * N * (l + 2) ≤ 2 * N * k := Int.mul_le_mul_of_nonneg_left (by omega) (by omega)
        rw [Int.mul_add] at h3; omega
  -- with u = |r - N|, the other one is N - u
  have key : ∀ u : Int, 0 ≤ u → u ≤ N → u * u + (N - u) * (N - u) ≤ N * N := fun u h0 h1 => by
    have : 0 ≤ u * (N - u) := Int.mul_nonneg h0 (by omega)
    have e : u * u + (N - u) * (N - u) = N * N - 2 * (u * (N - u)) := by grind
    omega
  rcases hrt with h | h
  · have := key (r - N) (by omega) (by omega)
    have e : (t - N) * (t - N) = (N - (r - N)) * (N - (r - N)) := by rw [show t - N = -(N - (r - N)) by omega]; grind
    omega
  · have := key (N - r) (by omega) (by omega)
    have e : (r - N) * (r - N) = (N - r) * (N - r) := by grind
    have e2 : (t - N) * (t - N) = (N - (N - r)) * (N - (N - r)) := by rw [show t - N = N - (N - r) by omega]
    omega
theorem div_bound {x y : Q} (hx : St x) (hy : St y) (h0 : y ≠ sNo) : wt (x.sub (hm y (evQ (wt y) (hm y.conj x)))) + wt (x.sub (hm y (odQ (wt y) (hm y.conj x)))) ≤ wt y := by
  have hN := wt_pos hy h0
  have cy := st_conj hy
  have sf := (hm_spec cy hx).2
  have dist : ∀ k : Q, St k → 4 * (wt y * wt (x.sub (hm y k))) = ((hm y.conj x).sub (Q.sc (wt y) k)).size := fun k hk => by
    have s1 := (hm_spec hy hk).2
    have s2 := st_sub hx s1
    have e : hm y.conj (x.sub (hm y k)) = (hm y.conj x).sub (Q.sc (wt y) k) := by
      rw [hm_sub_r cy hx s1, ← hm_assoc cy hy hk, conj_hm' hy, whole_hm]
    rw [← e, wt_spec (hm_spec cy s2).2, wt_hm cy s2, wt_conj]
  have d1 := dist _ (st_ev (wt y) (hm y.conj x))
  have d2 := dist _ (st_od (wt y) (hm y.conj x))
  generalize hm y.conj x = f at *
  generalize wt y = N at *
  generalize wt (x.sub (hm y (evQ N f))) = A at *
  generalize wt (x.sub (hm y (odQ N f))) = B at *
  have n1 := near_two (x := f.a) hN
  have n2 := near_two (x := f.b) hN
  have n3 := near_two (x := f.c) hN
  have n4 := near_two (x := f.d) hN
  simp only [Q.size, Q.sub, Q.sc, evQ, odQ] at d1 d2
  have : 4 * (N * A) + 4 * (N * B) ≤ 4 * (N * N) := by omega
  have h2 : N * (A + B) ≤ N * N := by rw [Int.mul_add]; omega
  exact Int.le_of_mul_le_mul_left h2 hN
def divQ (x y : Q) : Q := if wt (x.sub (hm y (odQ (wt y) (hm y.conj x)))) < wt (x.sub (hm y (evQ (wt y) (hm y.conj x)))) then odQ (wt y) (hm y.conj x) else evQ (wt y) (hm y.conj x)
def divR (x y : Q) : Q := x.sub (hm y (divQ x y))
theorem st_divQ (x y : Q) : St (divQ x y) := by unfold divQ; split; exact st_od _ _; exact st_ev _ _
theorem st_divR {x y : Q} (hx : St x) (hy : St y) : St (divR x y) := st_sub hx (hm_spec hy (st_divQ x y)).2
theorem div_small {x y : Q} (hx : St x) (hy : St y) (h0 : y ≠ sNo) : 2 * wt (divR x y) ≤ wt y := by
  have := div_bound hx hy h0
  unfold divR divQ
  split <;> omega
theorem div_eq {x y : Q} : (hm y (divQ x y)).add (divR x y) = x := by
  unfold divR
  generalize hm y (divQ x y) = z
  cases x; cases z
  simp only [Q.add, Q.sub, Q.mk.injEq]; omega
theorem sub_self (p : Q) : p.sub p = sNo := by simp [Q.sub, sNo]
theorem hm_inj {y p q : Q} (hy : St y) (h0 : y ≠ sNo) (hp : St p) (hq : St q) (h : hm y p = hm y q) : p = q := by
  have e : hm y.conj (hm y p) = hm y.conj (hm y q) := by rw [h]
  rw [← hm_assoc (st_conj hy) hy hp, ← hm_assoc (st_conj hy) hy hq, conj_hm' hy, whole_hm, whole_hm] at e
  exact Q.sc_inj (by have := wt_pos hy h0; omega) e
theorem div_exact {y z : Q} (hy : St y) (h0 : y ≠ sNo) (hz : St z) : divQ (hm y z) y = z ∧ divR (hm y z) y = sNo := by
  have hN := wt_pos hy h0
  have hf : hm y.conj (hm y z) = Q.sc (wt y) z := by rw [← hm_assoc (st_conj hy) hy hz, conj_hm' hy, whole_hm]
  obtain ⟨s, r, hs, rfl⟩ := hz.split
  have ev : ∀ x : Int, evn (wt y) (wt y * (2 * x)) = 2 * x := fun x => by
    unfold evn
    have : (wt y * (2 * x) + wt y) / (2 * wt y) = x := by
      rw [show wt y * (2 * x) + wt y = wt y + 2 * wt y * x by grind, Int.add_mul_ediv_left _ _ (by omega), Int.ediv_eq_zero_of_lt (by omega) (by omega)]; omega
    omega
  have od : ∀ x : Int, odd1 (wt y) (wt y * (2 * x + 1)) = 2 * x + 1 := fun x => by
    unfold odd1
    have : (wt y * (2 * x + 1)) / (2 * wt y) = x := by
      rw [show wt y * (2 * x + 1) = wt y + 2 * wt y * x by grind, Int.add_mul_ediv_left _ _ (by omega), Int.ediv_eq_zero_of_lt (by omega) (by omega)]; omega
    omega
  have wn : ∀ p : Q, ¬ wt p < 0 := fun p => by have := wt_nn p; omega
  have key : divQ (hm y ⟨2 * r.a + s, 2 * r.b + s, 2 * r.c + s, 2 * r.d + s⟩) y = ⟨2 * r.a + s, 2 * r.b + s, 2 * r.c + s, 2 * r.d + s⟩ := by
    rcases hs with rfl | rfl
    · have e : evQ (wt y) (hm y.conj (hm y ⟨2 * r.a + 0, 2 * r.b + 0, 2 * r.c + 0, 2 * r.d + 0⟩)) = ⟨2 * r.a + 0, 2 * r.b + 0, 2 * r.c + 0, 2 * r.d + 0⟩ := by
        rw [hf]; simp only [evQ, Q.sc, Int.add_zero, ev]
      unfold divQ
      rw [e, sub_self, wt_no, if_neg (wn _)]
    · have e : odQ (wt y) (hm y.conj (hm y ⟨2 * r.a + 1, 2 * r.b + 1, 2 * r.c + 1, 2 * r.d + 1⟩)) = ⟨2 * r.a + 1, 2 * r.b + 1, 2 * r.c + 1, 2 * r.d + 1⟩ := by
        rw [hf]; simp only [odQ, Q.sc, od]
      unfold divQ
      rw [e, sub_self, wt_no]
      by_cases h : 0 < wt ((hm y ⟨2 * r.a + 1, 2 * r.b + 1, 2 * r.c + 1, 2 * r.d + 1⟩).sub (hm y (evQ (wt y) (hm y.conj (hm y ⟨2 * r.a + 1, 2 * r.b + 1, 2 * r.c + 1, 2 * r.d + 1⟩)))))
      · rw [if_pos h]
      · exfalso
        have sz := st_mk 1 r
        have s1 := (hm_spec hy sz).2
        have se := st_ev (wt y) (hm y.conj (hm y ⟨2 * r.a + 1, 2 * r.b + 1, 2 * r.c + 1, 2 * r.d + 1⟩))
        have s2 := (hm_spec hy se).2
        have z := wt_zero (st_sub s1 s2) (by have := wt_nn ((hm y ⟨2 * r.a + 1, 2 * r.b + 1, 2 * r.c + 1, 2 * r.d + 1⟩).sub (hm y (evQ (wt y) (hm y.conj (hm y ⟨2 * r.a + 1, 2 * r.b + 1, 2 * r.c + 1, 2 * r.d + 1⟩))))); omega)
        have eq : hm y ⟨2 * r.a + 1, 2 * r.b + 1, 2 * r.c + 1, 2 * r.d + 1⟩ = hm y (evQ (wt y) (hm y.conj (hm y ⟨2 * r.a + 1, 2 * r.b + 1, 2 * r.c + 1, 2 * r.d + 1⟩))) := by
          generalize hm y (evQ (wt y) (hm y.conj (hm y ⟨2 * r.a + 1, 2 * r.b + 1, 2 * r.c + 1, 2 * r.d + 1⟩))) = v at *
          generalize hm y ⟨2 * r.a + 1, 2 * r.b + 1, 2 * r.c + 1, 2 * r.d + 1⟩ = u at *
          cases u; cases v
          simp only [Q.sub, sNo, Q.mk.injEq] at z ⊢
          omega
        have q := hm_inj hy h0 sz se eq
        have := congrArg Q.a q
        simp only [evQ, evn] at this
        omega
  refine ⟨key, ?_⟩
  unfold divR
  rw [key, sub_self]
theorem fdiv2 (x : Int) : x.fdiv 2 = x / 2 := fdiv_pos (by decide)
theorem fdiv4 (x : Int) : x.fdiv 4 = x / 4 := fdiv_pos (by decide)
theorem hm_ok {p q : Q} {n m : Nat} (h : p.ok n) (k : q.ok m) : (hm p q).ok (n + m + 3) := by
  obtain ⟨h1, h2, h3, h4⟩ := Q.ok_mul h k
  exact ⟨div_bd h1, div_bd h2, div_bd h3, div_bd h4⟩
theorem q4_vs' (q : Q) : List.map PyData.int q.vs = [.int q.a, .int q.b, .int q.c, .int q.d] := rfl
local macro_rules | `(tactic| walk_at "ev") => `(tactic| simp -implicitDefEqProofs (disch := walk_at "ok") only [exL_nil, exL_cons, next_nx, next_rt, next_ct, next_ex, S_asg, S_set, S_put, S_app, S_ite, S_for, S_whl, S_ret, S_cont, S_pass, S_frz, S_raise, put_own, putK_i, app_own, frz_nil, frz_cons, frzK_own, frzK_val, E_var, E_con, E_glob, E_tup, E_lst, E_rep, E_bop, E_neg, E_not, E_and, E_or, E_cmp, E_ix, E_sl, E_bi, E_isi, E_call, E_lc, lcO_ok, L_nil, L_cons, Bs_nil, Bs_cons, bor_var, bor_con, bor_glob, bor_tup, bor_lst, bor_rep, bor_bop, bor_neg, bor_not, bor_and, bor_or, bor_cmp, bor_ix, bor_sl, bor_sl3, bor_inr, bor_call0, bor_bi, bor_isi, bor_call, bor_lc, lookE_val, lookB_val, lookB_own, valM_ok, valM_stuck, valM_ex, d_val, d_own, negD_i, notD_b, andD_t, andD_f, orD_t, orD_f, andD_b, orD_b, add_ii, sub_ii, mul_ii', fdiv_ii', mod_ii', pow10_9, pow10_10, pow10_12, pow10_15, pow10_20, pow10_30, pow10_60, pow10_120, add_ll, add_tt, lt_ii, le_ii, gt_ii, ge_ii, eq_ii, ne_ii, isN_d, notN_d, isB_bb, notB_bb, ix_l, ix_t, ixO_some, at_0, at_1, at_2, at_3, iteD_t, iteD_f, iteD_b, ret_var, retV_b, end_rt, end_nx, end_ex, ret_con, ret_glob, ret_tup, ret_lst, ret_rep, ret_bop, ret_neg, ret_not, ret_and, ret_or, ret_cmp, ret_ix, ret_sl, ret_sl3, ret_inr, ret_call0, safe_ok, inr_t, inr_f, S_tri, tri_ok, tri_ex, su_nil, su_cons, suD_is, suD_con, suD_two, suD_lst, suD_cat, suCat_l, E_sl3, E_inr, E_call0, mul_ti, List.map_cons, List.map_nil, ret_bi, ret_isi, ret_call, ret_lc, isi_ii, isi_ib, isi_it, isi_il, isi_in, isi_bi, isi_bb, isi_tt, isi_tl, isi_ti, isi_tn, isi_ll, isi_lt, bi_abs, bi_len_l, bi_len_t, bi_int_i, bi_int_b, bi_list_l, bi_list_t, bi_tuple_l, bi_tuple_t, bi_sum, bi_all, sumO_some, allO_some, bi_min2, bi_max2, phi_0, phi_1, phi_2, phi_s, bindT_nm, bindT_tp, bindT_tl, bindTs_nil, bindTs_cons, it_seq, it_zip_t, it_zip_l, it_rev, itL, itT, turn_0, turn_t, turn_f, wipe_nil, wipe_cons, forF_eq, whlC_eq, whlF_eq, lcF_eq, bind_ok, bind_stuck, bind_ex, List.set_cons_zero, List.set_cons_succ, List.getElem?_cons_zero, List.getElem?_cons_succ, if_true, if_false, Bool.false_eq_true, part_0, part_1, sl_l, sl_t, nonD, Bool.not_true, Bool.not_false, Bool.and_true, Bool.true_and, Bool.and_false, Bool.false_and, Bool.or_true, Bool.true_or, Bool.or_false, Bool.false_or, Int.cast_ofNat_Int, beq_self_eq_true, decide_true, decide_false, Int.neg_neg, Int.zero_add, Int.add_zero, line_lt, small_i, it_rng1, it_rng2, eq_self, for_nil, for_cons, forK_nx, forK_ct, forK_rt, lc_nil, lc_cons, lcK_some, lcK_none, rng_3, rng_4, run_whole, run_cell, run_near, vals_nil, vals_cons, vals_map, allI_nil, allI_cons, allI_map, allI_app, vals_app, run_divl, run_divt, run_ldivl, run_ldivt, run_euclid, ints_all, List.length_cons, List.length_nil, List.length_map, List.length_append, List.cons_append, List.nil_append, List.length_set, List.length_reverse, go_nx, go_ct, ret_ok, run_mirrored, app_ok, ix_q0, ix_q1, ix_q2, ix_q3, run_qsame, rng_0, rng_1, rng_2, turn_b, Q.vs_len, isi_q, len_q, seq_q, ne_q, eq_q, ne_q0, ne_li, eq_li, ix_v0, ix_v1, ix_v2, ix_m0, ix_m1, ix_m2, ix_n0, ix_n1, seq_v, seq_m, isi_v, isi_m, isi_n, len_v, len_m, len_n, list_v, bind_v, bind_m, bind_n, bind_q, add_vv, add_tv, set4_0, set4_1, set4_2, set4_3, set3_0, set3_1, set3_2, all_3, all_4, bools_3, bools_4, run_ldivq, run_divq, sum3, sum4, eq_nn, zip_v, tup_v, ne_rows, lcK_if, run_columns, run_back, run_lnumber, ne_nn, nonD_t3, nonD_tl, forK_ex, ne_vs, eq_vs, eq_sr, ne_sr, ix_s0, ix_s1, ix_s2, ix_t0, ix_t1, ix_t2, rx_a, rx_b, rx_c, rx_0, rx_d, rx_e, rx_1, rx_2, rx_f, run_ldiv2l, run_ldiv2t, ne_bb, eq_bb, reduceIte, Nat.reduceAdd, Int.reduceBEq, Int.reduceToNat, Int.reduceMul, Int.reduceAdd, Int.reduceSub, Int.reduceLT, Int.reduceLE, Int.reduceFMod, Int.reduceFDiv, Int.reduceNeg])
theorem run_hm {p q : Q} {n m : Nat} (h : p.ok n) (k : q.ok m) (hl : n + m ≤ 900000) : d_stone_product [q4 p, q4 q] = .ok (.val (q4 (hm p q))) := by
  have e := run_product h k hl
  refine o_stone_product ?_
  unfold b_stone_product
  repeat (first | walk_at "ev" | rw [e] | rw [q4_vs'] | rw [fdiv2])
  rfl
theorem run_wt {p : Q} {n : Nat} (h : p.ok n) (hl : n ≤ 400000) : d_weight [q4 p] = .ok (.val (.int (wt p))) := by
  have e := run_size h hl
  refine o_weight ?_
  unfold b_weight
  repeat (first | walk_at "ev" | rw [e] | rw [fdiv4])
  rfl
theorem zip_q {p q : Q} : itD .zip [q4 p, q4 q] = .ok [.tuple [.int p.a, .int q.a], .tuple [.int p.b, .int q.b], .tuple [.int p.c, .int q.c], .tuple [.int p.d, .int q.d]] := rfl
local macro_rules | `(tactic| walk_at "ev") => `(tactic| simp -implicitDefEqProofs (disch := walk_at "ok") only [exL_nil, exL_cons, next_nx, next_rt, next_ct, next_ex, S_asg, S_set, S_put, S_app, S_ite, S_for, S_whl, S_ret, S_cont, S_pass, S_frz, S_raise, put_own, putK_i, app_own, frz_nil, frz_cons, frzK_own, frzK_val, E_var, E_con, E_glob, E_tup, E_lst, E_rep, E_bop, E_neg, E_not, E_and, E_or, E_cmp, E_ix, E_sl, E_bi, E_isi, E_call, E_lc, lcO_ok, L_nil, L_cons, Bs_nil, Bs_cons, bor_var, bor_con, bor_glob, bor_tup, bor_lst, bor_rep, bor_bop, bor_neg, bor_not, bor_and, bor_or, bor_cmp, bor_ix, bor_sl, bor_sl3, bor_inr, bor_call0, bor_bi, bor_isi, bor_call, bor_lc, lookE_val, lookB_val, lookB_own, valM_ok, valM_stuck, valM_ex, d_val, d_own, negD_i, notD_b, andD_t, andD_f, orD_t, orD_f, andD_b, orD_b, add_ii, sub_ii, mul_ii', fdiv_ii', mod_ii', pow10_9, pow10_10, pow10_12, pow10_15, pow10_20, pow10_30, pow10_60, pow10_120, add_ll, add_tt, lt_ii, le_ii, gt_ii, ge_ii, eq_ii, ne_ii, isN_d, notN_d, isB_bb, notB_bb, ix_l, ix_t, ixO_some, at_0, at_1, at_2, at_3, iteD_t, iteD_f, iteD_b, ret_var, retV_b, end_rt, end_nx, end_ex, ret_con, ret_glob, ret_tup, ret_lst, ret_rep, ret_bop, ret_neg, ret_not, ret_and, ret_or, ret_cmp, ret_ix, ret_sl, ret_sl3, ret_inr, ret_call0, safe_ok, inr_t, inr_f, S_tri, tri_ok, tri_ex, su_nil, su_cons, suD_is, suD_con, suD_two, suD_lst, suD_cat, suCat_l, E_sl3, E_inr, E_call0, mul_ti, List.map_cons, List.map_nil, ret_bi, ret_isi, ret_call, ret_lc, isi_ii, isi_ib, isi_it, isi_il, isi_in, isi_bi, isi_bb, isi_tt, isi_tl, isi_ti, isi_tn, isi_ll, isi_lt, bi_abs, bi_len_l, bi_len_t, bi_int_i, bi_int_b, bi_list_l, bi_list_t, bi_tuple_l, bi_tuple_t, bi_sum, bi_all, sumO_some, allO_some, bi_min2, bi_max2, phi_0, phi_1, phi_2, phi_s, bindT_nm, bindT_tp, bindT_tl, bindTs_nil, bindTs_cons, it_seq, it_zip_t, it_zip_l, it_rev, itL, itT, turn_0, turn_t, turn_f, wipe_nil, wipe_cons, forF_eq, whlC_eq, whlF_eq, lcF_eq, bind_ok, bind_stuck, bind_ex, List.set_cons_zero, List.set_cons_succ, List.getElem?_cons_zero, List.getElem?_cons_succ, if_true, if_false, Bool.false_eq_true, part_0, part_1, sl_l, sl_t, nonD, Bool.not_true, Bool.not_false, Bool.and_true, Bool.true_and, Bool.and_false, Bool.false_and, Bool.or_true, Bool.true_or, Bool.or_false, Bool.false_or, Int.cast_ofNat_Int, beq_self_eq_true, decide_true, decide_false, Int.neg_neg, Int.zero_add, Int.add_zero, line_lt, small_i, it_rng1, it_rng2, eq_self, for_nil, for_cons, forK_nx, forK_ct, forK_rt, lc_nil, lc_cons, lcK_some, lcK_none, rng_3, rng_4, run_whole, run_cell, run_near, vals_nil, vals_cons, vals_map, allI_nil, allI_cons, allI_map, allI_app, vals_app, run_divl, run_divt, run_ldivl, run_ldivt, run_euclid, ints_all, List.length_cons, List.length_nil, List.length_map, List.length_append, List.cons_append, List.nil_append, List.length_set, List.length_reverse, go_nx, go_ct, ret_ok, run_mirrored, app_ok, ix_q0, ix_q1, ix_q2, ix_q3, run_qsame, rng_0, rng_1, rng_2, turn_b, Q.vs_len, isi_q, len_q, seq_q, ne_q, eq_q, ne_q0, ne_li, eq_li, ix_v0, ix_v1, ix_v2, ix_m0, ix_m1, ix_m2, ix_n0, ix_n1, seq_v, seq_m, isi_v, isi_m, isi_n, len_v, len_m, len_n, list_v, bind_v, bind_m, bind_n, bind_q, add_vv, add_tv, set4_0, set4_1, set4_2, set4_3, set3_0, set3_1, set3_2, all_3, all_4, bools_3, bools_4, run_ldivq, run_divq, sum3, sum4, eq_nn, zip_v, tup_v, ne_rows, lcK_if, run_columns, run_back, run_lnumber, ne_nn, nonD_t3, nonD_tl, forK_ex, ne_vs, eq_vs, eq_sr, ne_sr, ix_s0, ix_s1, ix_s2, ix_t0, ix_t1, ix_t2, rx_a, rx_b, rx_c, rx_0, rx_d, rx_e, rx_1, rx_2, rx_f, run_ldiv2l, run_ldiv2t, ne_bb, eq_bb, zip_q, reduceIte, Nat.reduceAdd, Int.reduceBEq, Int.reduceToNat, Int.reduceMul, Int.reduceAdd, Int.reduceSub, Int.reduceLT, Int.reduceLE, Int.reduceFMod, Int.reduceFDiv, Int.reduceNeg])
theorem run_less {p q : Q} : d_stone_less [q4 p, q4 q] = .ok (.val (q4 (p.sub q))) := by
  refine o_stone_less ?_
  unfold b_stone_less
  repeat walk_at "ev"
  rfl
theorem ev_ok {N : Int} {f : Q} {n : Nat} (hN : 0 < N) (h : f.ok n) (hNb : N.natAbs < 2 ^ n) : (evQ N f).ok (n + 2) ∧ (odQ N f).ok (n + 2) := by
  have e1 : ∀ {x : Int}, x.natAbs < 2 ^ n → (evn N x).natAbs < 2 ^ (n + 2) := fun {x} hx => by
    unfold evn
    have : ((x + N) / (2 * N)).natAbs ≤ (x + N).natAbs := Int.natAbs_ediv_le_natAbs _ _
    rw [Nat.pow_add]; omega
  have e2 : ∀ {x : Int}, x.natAbs < 2 ^ n → (odd1 N x).natAbs < 2 ^ (n + 2) := fun {x} hx => by
    unfold odd1
    have : (x / (2 * N)).natAbs ≤ x.natAbs := Int.natAbs_ediv_le_natAbs _ _
    rw [Nat.pow_add]; omega
  exact ⟨⟨e1 h.1, e1 h.2.1, e1 h.2.2.1, e1 h.2.2.2⟩, ⟨e2 h.1, e2 h.2.1, e2 h.2.2.1, e2 h.2.2.2⟩⟩
theorem wt_bd {p : Q} {n : Nat} (h : p.ok n) : (wt p).natAbs < 2 ^ (n + n + 3) := div_bd (Q.bd_size h)
theorem sub_ok {p q : Q} {n : Nat} (h : p.ok n) (k : q.ok n) : (p.sub q).ok (n + 1) :=
  ⟨bd_mono (bd_sub h.1 k.1) (by omega), bd_mono (bd_sub h.2.1 k.2.1) (by omega), bd_mono (bd_sub h.2.2.1 k.2.2.1) (by omega), bd_mono (bd_sub h.2.2.2 k.2.2.2) (by omega)⟩
theorem divQ_ok {x y : Q} {n : Nat} (hy : St y) (h0 : y ≠ sNo) (h : x.ok n) (k : y.ok n) : (divQ x y).ok (2 * n + 5) := by
  have f := hm_ok (Q.ok_conj k) h
  have e := ev_ok (wt_pos hy h0) (Q.ok_mono f (show n + n + 3 ≤ 2 * n + 3 by omega)) (bd_mono (wt_bd k) (by omega))
  unfold divQ
  split
  · exact e.2
  · exact e.1
theorem run_divided {x y : Q} {n : Nat} (hx : St x) (hy : St y) (h0 : y ≠ sNo) (h : x.ok n) (k : y.ok n) (hn : n ≤ 4000) : d_divided [q4 x, q4 y] = .ok (.val (.tuple [q4 (divQ x y), q4 (divR x y)])) := by
  have hN := wt_pos hy h0
  have nb := wt_bd k
  have fo := hm_ok (Q.ok_conj k) h
  have e := ev_ok hN (Q.ok_mono fo (show n + n + 3 ≤ 2 * n + 3 by omega)) (bd_mono nb (by omega))
  have e1 := run_wt k (by omega)
  have e2 := run_hm (Q.ok_conj k) h (by omega)
  have e3 := run_hm k e.1 (by omega)
  have e4 := run_hm k e.2 (by omega)
  have o1 := Q.ok_mono (hm_ok k e.1) (show n + (2 * n + 3 + 2) + 3 ≤ 3 * n + 8 by omega)
  have o2 := Q.ok_mono (hm_ok k e.2) (show n + (2 * n + 3 + 2) + 3 ≤ 3 * n + 8 by omega)
  have xo := Q.ok_mono h (show n ≤ 3 * n + 8 by omega)
  have e5 := run_wt (sub_ok xo o1) (by omega)
  have e6 := run_wt (sub_ok xo o2) (by omega)
  have n0 : (wt y == 0) = false := by simp; omega
  have d2 : 2 * wt y ≠ 0 := by omega
  have b9 : (2 * wt y).natAbs < 2 ^ 9000 := by
    have : (2 * wt y).natAbs < 2 ^ (n + n + 4) := by rw [Nat.pow_succ]; omega
    exact bd_mono this (by omega)
  have fd : ∀ t : Int, t.fdiv (2 * wt y) = t / (2 * wt y) := fun t => fdiv_pos (by omega)
  have fb : ∀ t : Int, divOk t (2 * wt y) = true := fun t => divOk_of d2 b9
  generalize hf : hm y.conj x = f at *
  obtain ⟨f1, f2, f3, f4⟩ := id fo
  obtain ⟨g1, g2, g3, g4⟩ := id e.1
  have v1 : ∀ {t : Int}, t.natAbs < 2 ^ (n + n + 3) → ((t + wt y) / (2 * wt y)).natAbs < 2 ^ (n + n + 4) := fun {t} ht => by
    have : ((t + wt y) / (2 * wt y)).natAbs ≤ (t + wt y).natAbs := Int.natAbs_ediv_le_natAbs _ _
    rw [Nat.pow_succ]; omega
  have v2 : ∀ {t : Int}, t.natAbs < 2 ^ (n + n + 3) → (t / (2 * wt y)).natAbs < 2 ^ (n + n + 4) := fun {t} ht => by
    have : (t / (2 * wt y)).natAbs ≤ t.natAbs := Int.natAbs_ediv_le_natAbs _ _
    rw [Nat.pow_succ]; omega
  have w1 := v1 f1; have w2 := v1 f2; have w3 := v1 f3; have w4 := v1 f4
  have u1 := v2 f1; have u2 := v2 f2; have u3 := v2 f3; have u4 := v2 f4
  have t1 : PyData.tuple [.int (2 * ((f.a + wt y) / (2 * wt y))), .int (2 * ((f.b + wt y) / (2 * wt y))), .int (2 * ((f.c + wt y) / (2 * wt y))), .int (2 * ((f.d + wt y) / (2 * wt y)))] = q4 (evQ (wt y) f) := rfl
  have t2 : PyData.tuple [.int (2 * (f.a / (2 * wt y)) + 1), .int (2 * (f.b / (2 * wt y)) + 1), .int (2 * (f.c / (2 * wt y)) + 1), .int (2 * (f.d / (2 * wt y)) + 1)] = q4 (odQ (wt y) f) := rfl
  refine o_divided ?_
  unfold b_divided
  have e2' : d_stone_product [q4 y.conj, q4 x] = .ok (.val (q4 f)) := e2
  by_cases hlt : wt (x.sub (hm y (odQ (wt y) f))) < wt (x.sub (hm y (evQ (wt y) f)))
  · have hq : divQ x y = odQ (wt y) f := by unfold divQ; rw [hf, if_pos hlt]
    unfold divR
    rw [hq]
    have hb := decide_eq_true hlt
    repeat (first | walk_at "ev" | rw [e1] | rw [n0] | rw [e2'] | rw [q4_vs'] | rw [fb] | rw [fd] | rw [t1] | rw [t2] | rw [e3] | rw [e4] | rw [run_less] | rw [e5] | rw [e6] | rw [hb])
  · have hq : divQ x y = evQ (wt y) f := by unfold divQ; rw [hf, if_neg hlt]
    unfold divR
    rw [hq]
    have hb := decide_eq_false hlt
    repeat (first | walk_at "ev" | rw [e1] | rw [n0] | rw [e2'] | rw [q4_vs'] | rw [fb] | rw [fd] | rw [t1] | rw [t2] | rw [e3] | rw [e4] | rw [run_less] | rw [e5] | rw [e6] | rw [hb])
end Lb
namespace Lb
open PySem Tg
def b_parted : List S :=
   [.asg (.nm 2) (.con (.int 1)),
    .for (.nm 3) .seq [.var 1] [.asg (.nm 2) (.bop .mul (.var 2) (.var 3))],
    .ite (.cmp .ne (.var 2) (.ix (.var 0) (.con (.int 1)))) [.raise 4] [],
    .asg (.nm 4) (.bi .tuple [.lc (.bop .mul (.con (.int 2)) (.var 3)) (.nm 3) .seq [.call 0 [.var 0]] [] [3]]),
    .set 5 (.lst []),
    .for (.nm 3) .seq [.var 1] [.asg (.nm 6) (.call 1 [.var 4, .tup [.bop .mul (.con (.int 2)) (.var 3), .con (.int 0), .con (.int 0), .con (.int 0)]]), .app 5 (.call 2 [.ix (.var 6) (.con (.int 0))]), .asg (.nm 4) (.ix (.var 6) (.con (.int 3)))],
    .app 5 (.call 2 [.var 4]),
    .ret (.var 5)]
noncomputable def d_parted : List D → M B := runF (phi [d_quad_of, d_common, d_turn_of]) 2 7 b_parted
theorem o_parted {x0 x1 : D} {r : M B} (h : endD (exL (phi [d_quad_of, d_common, d_turn_of]) b_parted [some (.val x0), some (.val x1), none, none, none, none, none]) = r) : d_parted [x0, x1] = r := run_of rfl rfl h
end Lb
namespace Lb
open PySem Tg
local macro_rules | `(tactic| walk_at "bd") => `(tactic| first | assumption | exact near_b3 | exact near_b6 | exact near_b9 | exact near_b999 | exact near_b1000 | exact near_b12 | exact near_b15 | exact near_b20 | exact near_b30 | exact near_b60 | exact bd_lit rfl (by decide) | (refine' bd_add ?h1 ?h2; (case h1 => walk_at "bd"); (case h2 => walk_at "bd")) | (refine' bd_sub ?h1 ?h2; (case h1 => walk_at "bd"); (case h2 => walk_at "bd")) | (refine' bd_mul ?h1 ?h2; (case h1 => walk_at "bd"); (case h2 => walk_at "bd")) | (refine' bd_neg ?_; walk_at "bd"))
local macro_rules | `(tactic| walk_at "ok") => `(tactic| first | assumption | decide | (refine line_lt ?_; (first | omega | (simp only [List.length_map, List.length_set, List.length_append, List.length_cons, List.length_nil, List.length_reverse]; omega))) | (refine' mulOk_of ?h1 ?h2 ?h3; (case h1 => walk_at "bd"); (case h2 => walk_at "bd"); (case h3 => first | decide | omega | (simp only [Nat.max_def]; first | decide | omega))) | (refine divOk_of ?_ ?_ <;> first | assumption | decide +kernel | omega) | omega | (simp -implicitDefEqProofs only [allI_nil, allI_cons, allI_map, allI_app, Bool.and_self, Bool.and_true]; done))
theorem wt_ok {p : Q} (hp : St p) {m : Nat} (h : wt p < 2 ^ (2 * m)) : p.ok (m + 1) := by
  have e := wt_spec hp
  have key : ∀ x : Int, x * x ≤ p.size → x.natAbs < 2 ^ (m + 1) := fun x hx => by
    rcases Nat.lt_or_ge x.natAbs (2 ^ (m + 1)) with h1 | h1
    · exact h1
    · exfalso
      have h2 := Nat.mul_le_mul h1 h1
      have h3 : 2 ^ (m + 1) * 2 ^ (m + 1) = 4 * 2 ^ (2 * m) := by
        rw [← Nat.pow_add, show m + 1 + (m + 1) = 2 * m + 2 by omega, Nat.pow_add]; omega
      have h4 : ((x.natAbs * x.natAbs : Nat) : Int) = x * x := by
        rw [← Int.natAbs_mul]
        have := sq_nn x
        omega
      have h5 : ((2 ^ (2 * m) : Nat) : Int) = 2 ^ (2 * m) := by norm_cast
      omega
  have s1 := sq_nn p.a; have s2 := sq_nn p.b; have s3 := sq_nn p.c; have s4 := sq_nn p.d
  unfold Q.size at key
  exact ⟨key _ (by omega), key _ (by omega), key _ (by omega), key _ (by omega)⟩
structure Cm (x y : Q) (m t : Nat) (one a b other c d : Q) : Prop where
  s1 : St one
  s2 : St a
  s3 : St b
  s4 : St other
  s5 : St c
  s6 : St d
  e1 : one = (hm x a).add (hm y b)
  e2 : other = (hm x c).add (hm y d)
  f : ∃ p q r u : Q, St p ∧ St q ∧ St r ∧ St u ∧ x = (hm one p).add (hm other q) ∧ y = (hm one r).add (hm other u)
  w1 : wt one < 2 ^ (2 * m)
  w2 : wt other * 2 ^ t < 2 ^ (2 * m)
  o2 : a.ok (t * (2 * m + 11) + 2)
  o3 : b.ok (t * (2 * m + 11) + 2)
  o5 : c.ok (t * (2 * m + 11) + 2)
  o6 : d.ok (t * (2 * m + 11) + 2)
  tm : t ≤ 2 * m
theorem pow_nat (m : Nat) : ((2 ^ m : Nat) : Int) = 2 ^ m := by norm_cast
theorem p2 (t : Nat) : (0 : Int) < 2 ^ t := Int.pow_pos (by decide)
theorem Cm.t_lt {x y : Q} {m t : Nat} {one a b other c d : Q} (h : Cm x y m t one a b other c d) (h0 : 0 < wt other) : t < 2 * m := by
  have h1 := h.w2
  have h2 : 1 * (2 : Int) ^ t ≤ wt other * 2 ^ t := Int.mul_le_mul_of_nonneg_right (by omega) (Int.le_of_lt (p2 t))
  rcases Nat.lt_or_ge t (2 * m) with h3 | h3
  · exact h3
  · have := Nat.pow_le_pow_right (n := 2) (by decide) h3
    rw [← pow_nat, ← pow_nat] at *
    omega
theorem Cm.w2' {x y : Q} {m t : Nat} {one a b other c d : Q} (h : Cm x y m t one a b other c d) : wt other < 2 ^ (2 * m) := by
  have h1 := h.w2
  have h2 : wt other * 1 ≤ wt other * 2 ^ t := Int.mul_le_mul_of_nonneg_left (by have := p2 t; omega) (wt_nn _)
  omega
theorem add_no (p : Q) : p.add sNo = p := by cases p; simp [Q.add, sNo]
theorem no_add (p : Q) : sNo.add p = p := by cases p; simp [Q.add, sNo]
theorem Cm.step {x y : Q} {m t : Nat} {one a b other c d : Q} (hx : St x) (hy : St y) (h : Cm x y m t one a b other c d) (h0 : 0 < wt other) :
    Cm x y m (t + 1) other c d (divR one other) (a.sub (hm c (divQ one other))) (b.sub (hm d (divQ one other))) ∧ wt (divR one other) < wt other := by
  have on0 : other ≠ sNo := fun e => by rw [e, wt_no] at h0; omega
  have sk := st_divQ one other
  have sr := st_divR h.s1 h.s4
  have small := div_small h.s1 h.s4 on0
  have deq := div_eq (x := one) (y := other)
  have oo := wt_ok h.s1 h.w1
  have ot := wt_ok h.s4 h.w2'
  have kb := divQ_ok h.s4 on0 oo ot
  have c1 := hm_ok h.o5 kb
  have d1 := hm_ok h.o6 kb
  have le : t * (2 * m + 11) + 2 + (2 * (m + 1) + 5) + 3 + 1 ≤ (t + 1) * (2 * m + 11) + 2 := by rw [Nat.add_mul]; omega
  have le2 : t * (2 * m + 11) + 2 ≤ (t + 1) * (2 * m + 11) + 2 := by rw [Nat.add_mul]; omega
  have le3 : t * (2 * m + 11) + 2 ≤ t * (2 * m + 11) + 2 + (2 * (m + 1) + 5) + 3 := by omega
  refine ⟨⟨h.s4, h.s5, h.s6, sr, st_sub h.s2 (hm_spec h.s5 sk).2, st_sub h.s3 (hm_spec h.s6 sk).2, h.e2, ?_, ?_, h.w2', ?_, Q.ok_mono h.o5 le2, Q.ok_mono h.o6 le2, Q.ok_mono (sub_ok (Q.ok_mono h.o2 le3) c1) le, Q.ok_mono (sub_ok (Q.ok_mono h.o3 le3) d1) le, h.t_lt h0⟩, by omega⟩
  · have e : divR one other = one.sub (hm other (divQ one other)) := rfl
    rw [e]
    clear e deq small kb c1 d1 oo ot sr
    generalize divQ one other = K at *
    have sc := (hm_spec h.s5 sk).2
    have sd := (hm_spec h.s6 sk).2
    rw [hm_sub_r hx h.s2 sc, hm_sub_r hy h.s3 sd]
    have e1 := h.e1
    have e3 : hm other (K) = (hm x (hm c (K))).add (hm y (hm d (K))) := by
      conv => lhs; rw [h.e2]
      rw [hm_add_l (hm_spec hx h.s5).2 (hm_spec hy h.s6).2 sk, hm_assoc hx h.s5 sk, hm_assoc hy h.s6 sk]
    rw [e3]
    conv => lhs; rw [e1]
    generalize hm x a = A
    generalize hm y b = B
    generalize hm x (hm c (K)) = C
    generalize hm y (hm d (K)) = D
    simp only [Q.add, Q.sub, Q.mk.injEq]; omega
  · obtain ⟨p, q, r, u, sp, sq, sr', su, e1, e2⟩ := h.f
    clear small kb c1 d1 oo ot
    generalize divQ one other = K at *
    generalize divR one other = R at *
    have swap : ∀ p q : Q, St p → St q → (hm one p).add (hm other q) = (hm other ((hm (K) p).add q)).add (hm (R) p) := fun p q sp sq => by
      conv => lhs; rw [← deq]
      rw [hm_add_l (hm_spec h.s4 sk).2 sr sp, hm_assoc h.s4 sk sp, hm_add_r h.s4 (hm_spec sk sp).2 sq]
      generalize hm other (hm (K) p) = A
      generalize hm (R) p = B
      generalize hm other q = C
      simp only [Q.add, Q.mk.injEq]; omega
    exact ⟨_, p, _, r, st_add (hm_spec sk sp).2 sq, sp, st_add (hm_spec sk sr').2 su, sr', by rw [← swap p q sp sq]; exact e1, by rw [← swap r u sr' su]; exact e2⟩
  · have h1 := h.w2
    have h2 : wt (divR one other) * 2 ^ (t + 1) = 2 * wt (divR one other) * 2 ^ t := by rw [Int.pow_succ]; grind
    rw [h2]
    have : 2 * wt (divR one other) * 2 ^ t ≤ wt other * 2 ^ t := Int.mul_le_mul_of_nonneg_right small (Int.le_of_lt (p2 t))
    omega
structure Com (x y s a b u v : Q) : Prop where
  ss : St s
  sa : St a
  sb : St b
  su : St u
  sv : St v
  e : s = (hm x a).add (hm y b)
  x : x = hm s u
  y : y = hm s v
def slotW (ρ : En) : Nat := match ρ[5]? with
  | some (some (Tg.B.val (PyData.tuple [PyData.int a, PyData.int b, PyData.int c, PyData.int d]))) => (wt ⟨a, b, c, d⟩).toNat
  | _ => 0
local macro_rules | `(tactic| walk_at "ev") => `(tactic| simp -implicitDefEqProofs (disch := walk_at "ok") only [exL_nil, exL_cons, next_nx, next_rt, next_ct, next_ex, S_asg, S_set, S_put, S_app, S_ite, S_for, S_whl, S_ret, S_cont, S_pass, S_frz, S_raise, put_own, putK_i, app_own, frz_nil, frz_cons, frzK_own, frzK_val, E_var, E_con, E_glob, E_tup, E_lst, E_rep, E_bop, E_neg, E_not, E_and, E_or, E_cmp, E_ix, E_sl, E_bi, E_isi, E_call, E_lc, lcO_ok, L_nil, L_cons, Bs_nil, Bs_cons, bor_var, bor_con, bor_glob, bor_tup, bor_lst, bor_rep, bor_bop, bor_neg, bor_not, bor_and, bor_or, bor_cmp, bor_ix, bor_sl, bor_sl3, bor_inr, bor_call0, bor_bi, bor_isi, bor_call, bor_lc, lookE_val, lookB_val, lookB_own, valM_ok, valM_stuck, valM_ex, d_val, d_own, negD_i, notD_b, andD_t, andD_f, orD_t, orD_f, andD_b, orD_b, add_ii, sub_ii, mul_ii', fdiv_ii', mod_ii', pow10_9, pow10_10, pow10_12, pow10_15, pow10_20, pow10_30, pow10_60, pow10_120, add_ll, add_tt, lt_ii, le_ii, gt_ii, ge_ii, eq_ii, ne_ii, isN_d, notN_d, isB_bb, notB_bb, ix_l, ix_t, ixO_some, at_0, at_1, at_2, at_3, iteD_t, iteD_f, iteD_b, ret_var, retV_b, end_rt, end_nx, end_ex, ret_con, ret_glob, ret_tup, ret_lst, ret_rep, ret_bop, ret_neg, ret_not, ret_and, ret_or, ret_cmp, ret_ix, ret_sl, ret_sl3, ret_inr, ret_call0, safe_ok, inr_t, inr_f, S_tri, tri_ok, tri_ex, su_nil, su_cons, suD_is, suD_con, suD_two, suD_lst, suD_cat, suCat_l, E_sl3, E_inr, E_call0, mul_ti, List.map_cons, List.map_nil, ret_bi, ret_isi, ret_call, ret_lc, isi_ii, isi_ib, isi_it, isi_il, isi_in, isi_bi, isi_bb, isi_tt, isi_tl, isi_ti, isi_tn, isi_ll, isi_lt, bi_abs, bi_len_l, bi_len_t, bi_int_i, bi_int_b, bi_list_l, bi_list_t, bi_tuple_l, bi_tuple_t, bi_sum, bi_all, sumO_some, allO_some, bi_min2, bi_max2, phi_0, phi_1, phi_2, phi_s, bindT_nm, bindT_tp, bindT_tl, bindTs_nil, bindTs_cons, it_seq, it_zip_t, it_zip_l, it_rev, itL, itT, turn_0, turn_t, turn_f, wipe_nil, wipe_cons, forF_eq, whlC_eq, whlF_eq, lcF_eq, bind_ok, bind_stuck, bind_ex, List.set_cons_zero, List.set_cons_succ, List.getElem?_cons_zero, List.getElem?_cons_succ, if_true, if_false, Bool.false_eq_true, part_0, part_1, sl_l, sl_t, nonD, Bool.not_true, Bool.not_false, Bool.and_true, Bool.true_and, Bool.and_false, Bool.false_and, Bool.or_true, Bool.true_or, Bool.or_false, Bool.false_or, Int.cast_ofNat_Int, beq_self_eq_true, decide_true, decide_false, Int.neg_neg, Int.zero_add, Int.add_zero, line_lt, small_i, it_rng1, it_rng2, eq_self, for_nil, for_cons, forK_nx, forK_ct, forK_rt, lc_nil, lc_cons, lcK_some, lcK_none, rng_3, rng_4, run_whole, run_cell, run_near, vals_nil, vals_cons, vals_map, allI_nil, allI_cons, allI_map, allI_app, vals_app, run_divl, run_divt, run_ldivl, run_ldivt, run_euclid, ints_all, List.length_cons, List.length_nil, List.length_map, List.length_append, List.cons_append, List.nil_append, List.length_set, List.length_reverse, go_nx, go_ct, ret_ok, run_mirrored, app_ok, ix_q0, ix_q1, ix_q2, ix_q3, run_qsame, rng_0, rng_1, rng_2, turn_b, Q.vs_len, isi_q, len_q, seq_q, ne_q, eq_q, ne_q0, ne_li, eq_li, ix_v0, ix_v1, ix_v2, ix_m0, ix_m1, ix_m2, ix_n0, ix_n1, seq_v, seq_m, isi_v, isi_m, isi_n, len_v, len_m, len_n, list_v, bind_v, bind_m, bind_n, bind_q, add_vv, add_tv, set4_0, set4_1, set4_2, set4_3, set3_0, set3_1, set3_2, all_3, all_4, bools_3, bools_4, run_ldivq, run_divq, sum3, sum4, eq_nn, zip_v, tup_v, ne_rows, lcK_if, run_columns, run_back, run_lnumber, ne_nn, nonD_t3, nonD_tl, forK_ex, ne_vs, eq_vs, eq_sr, ne_sr, ix_s0, ix_s1, ix_s2, ix_t0, ix_t1, ix_t2, rx_a, rx_b, rx_c, rx_0, rx_d, rx_e, rx_1, rx_2, rx_f, run_ldiv2l, run_ldiv2t, ne_bb, eq_bb, zip_q, reduceIte, Nat.reduceAdd, Int.reduceBEq, Int.reduceToNat, Int.reduceMul, Int.reduceAdd, Int.reduceSub, Int.reduceLT, Int.reduceLE, Int.reduceFMod, Int.reduceFDiv, Int.reduceNeg])
theorem run_common {x y : Q} {P : Nat} (hx : St x) (hy : St y) (xo : x.ok P) (yo : y.ok P) (hP : P ≤ 440) :
    ∃ s a b u v : Q, d_common [q4 x, q4 y] = .ok (.val (.tuple [q4 s, q4 a, q4 b, q4 u, q4 v])) ∧ Com x y s a b u v ∧ s.ok (P + 3) ∧ a.ok 800000 ∧ b.ok 800000 ∧ u.ok (2 * P + 11) ∧ v.ok (2 * P + 11) := by
  have wl : ∀ {z : Q}, z.ok P → wt z < 2 ^ (2 * (P + 2)) := fun hz => by
    have h1 := wt_bd hz
    have h2 := Nat.pow_le_pow_right (n := 2) (by decide) (show P + P + 3 ≤ 2 * (P + 2) by omega)
    rw [← pow_nat]; omega
  have C0 : Cm x y (P + 2) 0 x sOne sNo y sNo sOne := by
    refine ⟨hx, st_one, st_no, hy, st_no, st_one, by rw [hm_one, hm_no, add_no], by rw [hm_no, hm_one, no_add], ⟨sOne, sNo, sNo, sOne, st_one, st_no, st_no, st_one, by rw [hm_one, hm_no, add_no], by rw [hm_no, hm_one, no_add]⟩, wl xo, by simpa using wl yo, ?_, ?_, ?_, ?_, Nat.zero_le _⟩ <;> (rw [Nat.zero_mul]; exact ⟨by decide, by decide, by decide, by decide⟩)
  obtain ⟨ρ1, w1, t, one, a, b, other, c, d, k, r, rfl, hC, hz⟩ := whl_by (c := whlC (phi [d_weight, d_divided, d_stone_less, d_stone_product]) (.cmp .gt (.call 0 [.var 5]) (.con (.int 0)))) (f := whlF (phi [d_weight, d_divided, d_stone_less, d_stone_product]) [.asg (.tp [.nm 8, .nm 9]) (.call 1 [.var 2, .var 5]), .asg (.tp [.nm 2, .nm 5]) (.tup [.var 5, .var 9]), .asg (.tp [.nm 3, .nm 6]) (.tup [.var 6, .call 2 [.var 3, .call 3 [.var 6, .var 8]]]), .asg (.tp [.nm 4, .nm 7]) (.tup [.var 7, .call 2 [.var 4, .call 3 [.var 7, .var 8]]])])
    (fun ρ => ∃ (t : Nat) (one a b other c d : Q) (k r : Option Tg.B), ρ = [some (.val (q4 x)), some (.val (q4 y)), some (.val (q4 one)), some (.val (q4 a)), some (.val (q4 b)), some (.val (q4 other)), some (.val (q4 c)), some (.val (q4 d)), k, r] ∧ Cm x y (P + 2) t one a b other c d) slotW
    (fun ρ => ∃ (t : Nat) (one a b other c d : Q) (k r : Option Tg.B), ρ = [some (.val (q4 x)), some (.val (q4 y)), some (.val (q4 one)), some (.val (q4 a)), some (.val (q4 b)), some (.val (q4 other)), some (.val (q4 c)), some (.val (q4 d)), k, r] ∧ Cm x y (P + 2) t one a b other c d ∧ wt other = 0)
    (fun ρ ⟨t, one, a, b, other, c, d, k, r, e, hC⟩ => by
      subst e
      have oo := wt_ok hC.s1 hC.w1
      have ot := wt_ok hC.s4 hC.w2'
      have e1 := run_wt ot (by omega)
      by_cases h0 : 0 < wt other
      · right
        have on0 : other ≠ sNo := fun e => by rw [e, wt_no] at h0; omega
        have hb := decide_eq_true h0
        obtain ⟨hC2, hlt⟩ := hC.step hx hy h0
        have tl := hC.t_lt h0
        have e2 := run_divided hC.s1 hC.s4 on0 oo ot (by omega)
        have kb := divQ_ok hC.s4 on0 oo ot
        have tb : t * (2 * (P + 2) + 11) ≤ 884 * 895 := Nat.mul_le_mul (by omega) (by omega)
        have e3 := run_hm hC.o5 kb (by omega)
        have e4 := run_hm hC.o6 kb (by omega)
        refine ⟨by repeat (first | walk_at "ev" | rw [e1] | rw [hb]), [some (.val (q4 x)), some (.val (q4 y)), some (.val (q4 other)), some (.val (q4 c)), some (.val (q4 d)), some (.val (q4 (divR one other))), some (.val (q4 (a.sub (hm c (divQ one other))))), some (.val (q4 (b.sub (hm d (divQ one other))))), some (.val (q4 (divQ one other))), some (.val (q4 (divR one other)))], ?_, ⟨_, _, _, _, _, _, _, _, _, rfl, hC2⟩, ?_⟩
        · clear hC hC2 oo ot kb e1
          repeat (first | walk_at "ev" | rw [e2] | rw [e3] | rw [e4] | rw [run_less])
        · show (wt (divR one other)).toNat < (wt other).toNat
          omega
      · left
        have hb := decide_eq_false h0
        have := wt_nn other
        exact ⟨by repeat (first | walk_at "ev" | rw [e1] | rw [hb]), t, one, a, b, other, c, d, k, r, rfl, hC, by omega⟩) [some (.val (q4 x)), some (.val (q4 y)), some (.val (q4 x)), some (.val (q4 sOne)), some (.val (q4 sNo)), some (.val (q4 y)), some (.val (q4 sNo)), some (.val (q4 sOne)), none, none] ⟨0, _, _, _, _, _, _, none, none, rfl, C0⟩
  have on := wt_zero hC.s4 hz
  subst on
  obtain ⟨p, q, r', u, sp, sq, sr, su, f1, f2⟩ := hC.f
  have n1 : ∀ q : Q, hm sNo q = sNo := fun q => hm_eq (by simp [Q.mul, sNo, Q.sc])
  rw [n1, add_no] at f1 f2
  have oo := wt_ok hC.s1 hC.w1
  have e1 := run_wt oo (by omega)
  have tm := hC.tm
  have ab : ∀ {z : Q}, z.ok (t * (2 * (P + 2) + 11) + 2) → z.ok 800000 := fun hz => Q.ok_mono hz (by
    have : t * (2 * (P + 2) + 11) ≤ 884 * 895 := Nat.mul_le_mul (by omega) (by omega)
    omega)
  have oP : one.ok (P + 3) := oo
  have xP := Q.ok_mono xo (show P ≤ P + 3 by omega)
  have yP := Q.ok_mono yo (show P ≤ P + 3 by omega)
  have t0 : PyData.tuple [.int 2, .int 0, .int 0, .int 0] = q4 sOne := rfl
  have t1 : PyData.tuple [.int 0, .int 0, .int 0, .int 0] = q4 sNo := rfl
  by_cases hw : wt one = 0
  · have ez := wt_zero hC.s1 hw
    have xz : x = sNo := by rw [f1, ez, n1]
    have yz : y = sNo := by rw [f2, ez, n1]
    have hb : (wt one == 0) = true := by simpa using hw
    refine ⟨one, a, b, sNo, sNo, o_common ?_, ⟨hC.s1, hC.s2, hC.s3, st_no, st_no, hC.e1, by rw [hm_no, xz], by rw [hm_no, yz]⟩, oP, ab hC.o2, ab hC.o3, ⟨Nat.pow_pos (by decide), Nat.pow_pos (by decide), Nat.pow_pos (by decide), Nat.pow_pos (by decide)⟩, ⟨Nat.pow_pos (by decide), Nat.pow_pos (by decide), Nat.pow_pos (by decide), Nat.pow_pos (by decide)⟩⟩
    unfold b_common
    repeat (first | walk_at "ev" | rw [t0] | rw [t1] | rw [w1] | rw [e1] | rw [hb])
  · have on0 : one ≠ sNo := fun e => hw (by rw [e, wt_no])
    have hb : (wt one == 0) = false := by simpa using hw
    have d1 := run_divided hx hC.s1 on0 xP oP (by omega)
    have d2 := run_divided hy hC.s1 on0 yP oP (by omega)
    have k1 := divQ_ok hC.s1 on0 xP oP
    have k2 := divQ_ok hC.s1 on0 yP oP
    have q1 : divQ x one = p := by rw [f1]; exact (div_exact hC.s1 on0 sp).1
    have q2 : divQ y one = r' := by rw [f2]; exact (div_exact hC.s1 on0 sr).1
    rw [q1] at d1 k1
    rw [q2] at d2 k2
    refine ⟨one, a, b, p, r', o_common ?_, ⟨hC.s1, hC.s2, hC.s3, sp, sr, hC.e1, f1, f2⟩, oP, ab hC.o2, ab hC.o3, Q.ok_mono k1 (by omega), Q.ok_mono k2 (by omega)⟩
    unfold b_common
    repeat (first | walk_at "ev" | rw [t0] | rw [t1] | rw [w1] | rw [e1] | rw [hb] | rw [d1] | rw [d2])
theorem eq_q0' {p : Q} : cmpD .eq (q4 p) (.tuple [.int 0, .int 0, .int 0, .int 0]) = .ok (.val (.bool (decide (p = sNo)))) := eq_q (q := sNo)
def dotQ (p q : Q) : Int := p.a * q.a + p.b * q.b + p.c * q.c + p.d * q.d
theorem dot_even {p q : Q} (hp : St p) (hq : St q) : ∃ k, dotQ p q = 2 * k := by
  obtain ⟨s, r, hs, rfl⟩ := hp.split
  obtain ⟨t, u, ht, rfl⟩ := hq.split
  refine ⟨2 * (r.a * u.a + r.b * u.b + r.c * u.c + r.d * u.d) + t * (r.a + r.b + r.c + r.d) + s * (u.a + u.b + u.c + u.d) + 2 * (s * t), ?_⟩
  simp only [dotQ]; grind
theorem size_add (p q : Q) : (p.add q).size = p.size + 2 * dotQ p q + q.size := by simp only [Q.add, Q.size, dotQ]; grind
theorem dot_sc_r (p q : Q) (n : Int) : dotQ p (Q.sc n q) = n * dotQ p q := by simp only [dotQ, Q.sc]; grind
end Lb
namespace Lb
open PySem Tg
end Lb
namespace Lb
open PySem Tg
local macro_rules | `(tactic| walk_at "bd") => `(tactic| first | assumption | exact near_b3 | exact near_b6 | exact near_b9 | exact near_b999 | exact near_b1000 | exact near_b12 | exact near_b15 | exact near_b20 | exact near_b30 | exact near_b60 | exact bd_lit rfl (by decide) | (refine' bd_add ?h1 ?h2; (case h1 => walk_at "bd"); (case h2 => walk_at "bd")) | (refine' bd_sub ?h1 ?h2; (case h1 => walk_at "bd"); (case h2 => walk_at "bd")) | (refine' bd_mul ?h1 ?h2; (case h1 => walk_at "bd"); (case h2 => walk_at "bd")) | (refine' bd_neg ?_; walk_at "bd"))
local macro_rules | `(tactic| walk_at "ok") => `(tactic| first | assumption | decide | (refine line_lt ?_; (first | omega | (simp only [List.length_map, List.length_set, List.length_append, List.length_cons, List.length_nil, List.length_reverse]; omega))) | (refine' mulOk_of ?h1 ?h2 ?h3; (case h1 => walk_at "bd"); (case h2 => walk_at "bd"); (case h3 => first | decide | omega | (simp only [Nat.max_def]; first | decide | omega))) | (refine divOk_of ?_ ?_ <;> first | assumption | decide +kernel | omega) | omega | (simp -implicitDefEqProofs only [allI_nil, allI_cons, allI_map, allI_app, Bool.and_self, Bool.and_true]; done))
def PrimO (q : Q) : Prop := ∀ d : Nat, d % 2 = 1 → d ∣ q.g → d = 1
theorem primO_of {q : Q} (h : q.g = 1) : PrimO (Q.sc 2 q) := fun d hd h2 => by
  rw [Q.g_sc, h, Nat.mul_one] at h2
  have : d ∣ 2 := h2
  have h3 := Nat.le_of_dvd (by decide) this
  have : d = 0 ∨ d = 1 ∨ d = 2 := by omega
  rcases this with rfl | rfl | rfl
  · omega
  · rfl
  · omega
theorem PrimO.left {s u : Q} (hs : St s) (hu : St u) (h : PrimO (hm s u)) : PrimO s := fun d hd h2 => h d hd (by
  have key : ∀ x ∈ s.vs, (d : Int) ∣ x := fun x hx => Int.dvd_trans (Int.ofNat_dvd.mpr h2) (gcdL_dvd hx)
  have ka := key s.a (by simp [Q.vs]); have kb := key s.b (by simp [Q.vs]); have kc := key s.c (by simp [Q.vs]); have kd := key s.d (by simp [Q.vs])
  have two : ∀ z : Int, (d : Int) ∣ 2 * z → (d : Int) ∣ z := fun z hz => cop_dvd (s := 2) (by
    have h6 := Nat.gcd_dvd_left d 2
    have h4 := Nat.gcd_dvd_right d 2
    have := Nat.le_of_dvd (by decide) h4
    have h5 : Nat.gcd d 2 = 0 ∨ Nat.gcd d 2 = 1 ∨ Nat.gcd d 2 = 2 := by omega
    rcases h5 with h5 | h5 | h5
    · rw [h5] at h4; omega
    · exact h5
    · rw [h5] at h6; omega) hz
  have e := (hm_spec hs hu).1
  have ea := congrArg Q.a e; have eb := congrArg Q.b e; have ec := congrArg Q.c e; have ed := congrArg Q.d e
  simp only [Q.mul, Q.sc] at ea eb ec ed
  have m : ∀ {x : Int} (y : Int), (d : Int) ∣ x → (d : Int) ∣ x * y := fun y h => Int.dvd_mul_of_dvd_left h
  refine dvd_gcdL fun x hx => ?_
  simp only [Q.vs, List.mem_cons, List.not_mem_nil, or_false] at hx
  rcases hx with rfl | rfl | rfl | rfl
  · exact two _ (by rw [← ea]; exact Int.dvd_sub (Int.dvd_sub (Int.dvd_sub (m _ ka) (m _ kb)) (m _ kc)) (m _ kd))
  · exact two _ (by rw [← eb]; exact Int.dvd_sub (Int.dvd_add (Int.dvd_add (m _ ka) (m _ kb)) (m _ kc)) (m _ kd))
  · exact two _ (by rw [← ec]; exact Int.dvd_add (Int.dvd_add (Int.dvd_sub (m _ ka) (m _ kb)) (m _ kc)) (m _ kd))
  · exact two _ (by rw [← ed]; exact Int.dvd_add (Int.dvd_sub (Int.dvd_add (m _ ka) (m _ kb)) (m _ kc)) (m _ kd)))
theorem PrimO.right {s u : Q} (hs : St s) (hu : St u) (h : PrimO (hm s u)) : PrimO u := fun d hd h2 => h d hd (by
  have key : ∀ x ∈ u.vs, (d : Int) ∣ x := fun x hx => Int.dvd_trans (Int.ofNat_dvd.mpr h2) (gcdL_dvd hx)
  have ka := key u.a (by simp [Q.vs]); have kb := key u.b (by simp [Q.vs]); have kc := key u.c (by simp [Q.vs]); have kd := key u.d (by simp [Q.vs])
  have two : ∀ z : Int, (d : Int) ∣ 2 * z → (d : Int) ∣ z := fun z hz => cop_dvd (s := 2) (by
    have h6 := Nat.gcd_dvd_left d 2
    have h4 := Nat.gcd_dvd_right d 2
    have := Nat.le_of_dvd (by decide) h4
    have h5 : Nat.gcd d 2 = 0 ∨ Nat.gcd d 2 = 1 ∨ Nat.gcd d 2 = 2 := by omega
    rcases h5 with h5 | h5 | h5
    · rw [h5] at h4; omega
    · exact h5
    · rw [h5] at h6; omega) hz
  have e := (hm_spec hs hu).1
  have ea := congrArg Q.a e; have eb := congrArg Q.b e; have ec := congrArg Q.c e; have ed := congrArg Q.d e
  simp only [Q.mul, Q.sc] at ea eb ec ed
  have m : ∀ {x : Int} (y : Int), (d : Int) ∣ x → (d : Int) ∣ y * x := fun y h => Int.dvd_mul_of_dvd_right h
  refine dvd_gcdL fun x hx => ?_
  simp only [Q.vs, List.mem_cons, List.not_mem_nil, or_false] at hx
  rcases hx with rfl | rfl | rfl | rfl
  · exact two _ (by rw [← ea]; exact Int.dvd_sub (Int.dvd_sub (Int.dvd_sub (m _ ka) (m _ kb)) (m _ kc)) (m _ kd))
  · exact two _ (by rw [← eb]; exact Int.dvd_sub (Int.dvd_add (Int.dvd_add (m _ kb) (m _ ka)) (m _ kd)) (m _ kc))
  · exact two _ (by rw [← ec]; exact Int.dvd_add (Int.dvd_add (Int.dvd_sub (m _ kc) (m _ kd)) (m _ ka)) (m _ kb))
  · exact two _ (by rw [← ed]; exact Int.dvd_add (Int.dvd_sub (Int.dvd_add (m _ kd) (m _ kc)) (m _ kb)) (m _ ka)))
theorem com_prim {x : Q} (sx : St x) (hp : PrimO x) {m : Int} (hm0 : 0 < m) (hodd : m % 2 = 1) (hd : m ∣ wt x) {s a b u v : Q} (h : Com x ⟨2 * m, 0, 0, 0⟩ s a b u v) : wt s = m ∧ wt u * m = wt x ∧ PrimO s ∧ PrimO u := by
  have wy : wt ⟨2 * m, 0, 0, 0⟩ = m * m := by
    unfold wt
    have : (⟨2 * m, 0, 0, 0⟩ : Q).size = 4 * (m * m) := by simp only [Q.size]; grind
    rw [this]; omega
  have hx := h.x
  have hy := h.y
  have e1 : wt x = wt s * wt u := by conv => lhs; rw [hx, wt_hm h.ss h.su]
  have e2 : m * m = wt s * wt v := by rw [← wy, hy, wt_hm h.ss h.sv]
  have e3 : ∃ d, wt s = m * d := by
    obtain ⟨N, hN⟩ := hd
    have es := h.e
    have yb : hm ⟨2 * m, 0, 0, 0⟩ b = Q.sc m b := whole_hm m b
    rw [yb] at es
    have sA := (hm_spec sx h.sa).2
    have wA : wt (hm x a) = wt x * wt a := wt_hm sx h.sa
    obtain ⟨k, hk⟩ := dot_even sA h.sb
    have z1 := wt_spec h.ss
    have z2 : s.size = (hm x a).size + 2 * (m * dotQ (hm x a) b) + (Q.sc m b).size := by
      conv => lhs; rw [es]
      rw [size_add, dot_sc_r]
    rw [wt_spec sA, wA, hk, size_sc, wt_spec h.sb, hN] at z2
    exact ⟨N * wt a + k + m * wt b, by
      have : 4 * wt s = 4 * (m * (N * wt a + k + m * wt b)) := by rw [← z1, z2]; grind
      omega⟩
  obtain ⟨d, ed⟩ := e3
  have e4 : d * wt v = m := by
    rw [ed] at e2
    have : m * (d * wt v) = m * m := by rw [e2]; grind
    exact Int.eq_of_mul_eq_mul_left (by omega) this
  have vp : wt v ≠ 0 := fun z => by rw [z, Int.mul_zero] at e4; omega
  have wvp : 0 < wt v := by have := wt_nn v; omega
  have dp : 0 < d := by
    rcases Int.lt_or_le 0 d with h1 | h1
    · exact h1
    · have := Int.mul_nonpos_of_nonpos_of_nonneg h1 (Int.le_of_lt wvp); omega
  have e5 : s = Q.sc d v.conj := by
    have cv := st_conj h.sv
    have l1 : hm (hm s v) v.conj = Q.sc (wt v) s := by
      rw [hm_assoc h.ss h.sv cv]
      have : hm v v.conj = ⟨2 * wt v, 0, 0, 0⟩ := by
        have := conj_hm' cv
        rw [Tn.of_conj_conj, wt_conj] at this
        exact this
      rw [this, hm_whole]
    have l2 : hm (hm s v) v.conj = Q.sc m v.conj := by rw [← hy, whole_hm]
    have l3 : Q.sc (wt v) s = Q.sc (wt v) (Q.sc d v.conj) := by rw [← l1, l2, Q.sc_sc, Int.mul_comm, e4]
    exact Q.sc_inj vp l3
  have e6 : x = Q.sc d (hm v.conj u) := by
    conv => lhs; rw [hx, e5]
    exact hm_eq (by rw [Q.sc_mul, (hm_spec (st_conj h.sv) h.su).1, Q.sc_sc, Q.sc_sc, Int.mul_comm])
  have dodd : d.natAbs % 2 = 1 := by
    have : (d * wt v) % 2 = 1 := by rw [e4]; exact hodd
    rcases (show d % 2 = 0 ∨ d % 2 = 1 by omega) with h1 | h1
    · rw [Int.mul_emod, h1] at this; simp at this
    · omega
  have d1 : d.natAbs ∣ x.g := by
    conv => rhs; rw [e6]
    rw [Q.g_sc]; exact ⟨_, rfl⟩
  have d2 := hp _ dodd d1
  have d3 : d = 1 := by omega
  rw [d3, Int.mul_one] at ed
  have hp' := hp
  rw [hx] at hp'
  exact ⟨ed, by rw [e1, ed, Int.mul_comm], hp'.left h.ss h.su, hp'.right h.ss h.su⟩
theorem bottom_of {x : Q} (hx : x ≠ Q.zero) (hp : PrimO x) {m : Int} {j : Nat} (hm0 : 0 < m) (hodd : m % 2 = 1) (hs : x.size = 2 ^ j * m) : (Tn.of x).n = m := by
  obtain ⟨p, hpl⟩ := Pl.mk' hx
  generalize (if x.lead < 0 then -(x.g : Int) else x.g) = s at hpl
  have hpz := hpl.ne
  have hT : Tn.of x = Tn.of p := by
    conv => lhs; rw [hpl.e]
    exact Tn.of_sc hpz hpl.s
  obtain ⟨G, hG, e, ho⟩ := two_part hpl.g hpz
  rw [hT]
  have hn := Tn.of_n hpz
  generalize (Tn.of p).n = n at *
  have sg : x.g = s.natAbs := by
    conv => lhs; rw [hpl.e]
    rw [Q.g_sc, hpl.g, Nat.mul_one]
  have es : x.size = s * s * (G * n) := by
    conv => lhs; rw [hpl.e]
    rw [size_sc, e]
  -- in natural numbers
  have en : s.natAbs * s.natAbs * (G.natAbs * n.natAbs) = 2 ^ j * m.natAbs := by
    rw [hs] at es
    have := congrArg Int.natAbs es
    rw [Int.natAbs_mul, Int.natAbs_mul, Int.natAbs_mul, Int.natAbs_mul, Int.natAbs_pow] at this
    exact this.symm
  have cop2 : ∀ {a : Nat} (k : Nat), a % 2 = 1 → Nat.Coprime a (2 ^ k) := fun {a} k h => by
    refine Nat.Coprime.pow_right k ?_
    have h4 := Nat.gcd_dvd_right a 2
    have h6 := Nat.gcd_dvd_left a 2
    have := Nat.le_of_dvd (by decide) h4
    have h5 : Nat.gcd a 2 = 0 ∨ Nat.gcd a 2 = 1 ∨ Nat.gcd a 2 = 2 := by omega
    rcases h5 with h5 | h5 | h5
    · rw [h5] at h4; omega
    · exact h5
    · rw [h5] at h6; omega
  have n1 : n.natAbs ∣ m.natAbs := (cop2 j (by omega)).dvd_of_dvd_mul_left ⟨s.natAbs * s.natAbs * G.natAbs, by rw [← en]; grind⟩
  have m1 : m.natAbs ∣ n.natAbs := by
    have c1 : Nat.Coprime m.natAbs s.natAbs := by
      have h6 := Nat.gcd_dvd_left m.natAbs s.natAbs
      have h7 := Nat.gcd_dvd_right m.natAbs s.natAbs
      refine hp _ ?_ (by rw [sg]; exact h7)
      obtain ⟨k, hk⟩ := h6
      rcases (show Nat.gcd m.natAbs s.natAbs % 2 = 0 ∨ Nat.gcd m.natAbs s.natAbs % 2 = 1 by omega) with h8 | h8
      · have : m.natAbs % 2 = 0 := by rw [hk, Nat.mul_mod, h8]; simp
        omega
      · exact h8
    have cG : Nat.Coprime m.natAbs G.natAbs := by
      rcases hG with rfl | rfl | rfl
      · exact Nat.coprime_one_right _
      · exact cop2 1 (by omega)
      · exact cop2 2 (by omega)
    have h9 : m.natAbs ∣ s.natAbs * (s.natAbs * (G.natAbs * n.natAbs)) := ⟨2 ^ j, by rw [← Nat.mul_assoc, en, Nat.mul_comm]⟩
    exact cG.dvd_of_dvd_mul_left (c1.dvd_of_dvd_mul_left (c1.dvd_of_dvd_mul_left h9))
  have := Nat.dvd_antisymm n1 m1
  omega
local macro_rules | `(tactic| walk_at "ev") => `(tactic| simp -implicitDefEqProofs (disch := walk_at "ok") only [exL_nil, exL_cons, next_nx, next_rt, next_ct, next_ex, S_asg, S_set, S_put, S_app, S_ite, S_for, S_whl, S_ret, S_cont, S_pass, S_frz, S_raise, put_own, putK_i, app_own, frz_nil, frz_cons, frzK_own, frzK_val, E_var, E_con, E_glob, E_tup, E_lst, E_rep, E_bop, E_neg, E_not, E_and, E_or, E_cmp, E_ix, E_sl, E_bi, E_isi, E_call, E_lc, lcO_ok, L_nil, L_cons, Bs_nil, Bs_cons, bor_var, bor_con, bor_glob, bor_tup, bor_lst, bor_rep, bor_bop, bor_neg, bor_not, bor_and, bor_or, bor_cmp, bor_ix, bor_sl, bor_sl3, bor_inr, bor_call0, bor_bi, bor_isi, bor_call, bor_lc, lookE_val, lookB_val, lookB_own, valM_ok, valM_stuck, valM_ex, d_val, d_own, negD_i, notD_b, andD_t, andD_f, orD_t, orD_f, andD_b, orD_b, add_ii, sub_ii, mul_ii', fdiv_ii', mod_ii', pow10_9, pow10_10, pow10_12, pow10_15, pow10_20, pow10_30, pow10_60, pow10_120, add_ll, add_tt, lt_ii, le_ii, gt_ii, ge_ii, eq_ii, ne_ii, isN_d, notN_d, isB_bb, notB_bb, ix_l, ix_t, ixO_some, at_0, at_1, at_2, at_3, iteD_t, iteD_f, iteD_b, ret_var, retV_b, end_rt, end_nx, end_ex, ret_con, ret_glob, ret_tup, ret_lst, ret_rep, ret_bop, ret_neg, ret_not, ret_and, ret_or, ret_cmp, ret_ix, ret_sl, ret_sl3, ret_inr, ret_call0, safe_ok, inr_t, inr_f, S_tri, tri_ok, tri_ex, su_nil, su_cons, suD_is, suD_con, suD_two, suD_lst, suD_cat, suCat_l, E_sl3, E_inr, E_call0, mul_ti, List.map_cons, List.map_nil, ret_bi, ret_isi, ret_call, ret_lc, isi_ii, isi_ib, isi_it, isi_il, isi_in, isi_bi, isi_bb, isi_tt, isi_tl, isi_ti, isi_tn, isi_ll, isi_lt, bi_abs, bi_len_l, bi_len_t, bi_int_i, bi_int_b, bi_list_l, bi_list_t, bi_tuple_l, bi_tuple_t, bi_sum, bi_all, sumO_some, allO_some, bi_min2, bi_max2, phi_0, phi_1, phi_2, phi_s, bindT_nm, bindT_tp, bindT_tl, bindTs_nil, bindTs_cons, it_seq, it_zip_t, it_zip_l, it_rev, itL, itT, turn_0, turn_t, turn_f, wipe_nil, wipe_cons, forF_eq, whlC_eq, whlF_eq, lcF_eq, bind_ok, bind_stuck, bind_ex, List.set_cons_zero, List.set_cons_succ, List.getElem?_cons_zero, List.getElem?_cons_succ, if_true, if_false, Bool.false_eq_true, part_0, part_1, sl_l, sl_t, nonD, Bool.not_true, Bool.not_false, Bool.and_true, Bool.true_and, Bool.and_false, Bool.false_and, Bool.or_true, Bool.true_or, Bool.or_false, Bool.false_or, Int.cast_ofNat_Int, beq_self_eq_true, decide_true, decide_false, Int.neg_neg, Int.zero_add, Int.add_zero, line_lt, small_i, it_rng1, it_rng2, eq_self, for_nil, for_cons, forK_nx, forK_ct, forK_rt, lc_nil, lc_cons, lcK_some, lcK_none, rng_3, rng_4, run_whole, run_cell, run_near, vals_nil, vals_cons, vals_map, allI_nil, allI_cons, allI_map, allI_app, vals_app, run_divl, run_divt, run_ldivl, run_ldivt, run_euclid, ints_all, List.length_cons, List.length_nil, List.length_map, List.length_append, List.cons_append, List.nil_append, List.length_set, List.length_reverse, go_nx, go_ct, ret_ok, run_mirrored, app_ok, ix_q0, ix_q1, ix_q2, ix_q3, run_qsame, rng_0, rng_1, rng_2, turn_b, Q.vs_len, isi_q, len_q, seq_q, ne_q, eq_q, ne_q0, ne_li, eq_li, ix_v0, ix_v1, ix_v2, ix_m0, ix_m1, ix_m2, ix_n0, ix_n1, seq_v, seq_m, isi_v, isi_m, isi_n, len_v, len_m, len_n, list_v, bind_v, bind_m, bind_n, bind_q, add_vv, add_tv, set4_0, set4_1, set4_2, set4_3, set3_0, set3_1, set3_2, all_3, all_4, bools_3, bools_4, run_ldivq, run_divq, sum3, sum4, eq_nn, zip_v, tup_v, ne_rows, lcK_if, run_columns, run_back, run_lnumber, ne_nn, nonD_t3, nonD_tl, forK_ex, ne_vs, eq_vs, eq_sr, ne_sr, ix_s0, ix_s1, ix_s2, ix_t0, ix_t1, ix_t2, rx_a, rx_b, rx_c, rx_0, rx_d, rx_e, rx_1, rx_2, rx_f, run_ldiv2l, run_ldiv2t, ne_bb, eq_bb, zip_q, eq_q0', reduceIte, Nat.reduceAdd, Int.reduceBEq, Int.reduceToNat, Int.reduceMul, Int.reduceAdd, Int.reduceSub, Int.reduceLT, Int.reduceLE, Int.reduceFMod, Int.reduceFDiv, Int.reduceNeg])
theorem run_total {Φ : Fs} {ms : List Int} {B : Nat} (hB : ∀ m ∈ ms, m.natAbs < 2 ^ B) (hl : B * ms.length ≤ 400000) (hB2 : B ≤ 400000) (a b x3 x4 x5 x6 : Option Tg.B) : ∀ (x : Int), x.natAbs < 2 ^ 8 →
    ∃ y, forD (forF Φ (.nm 3) [.asg (.nm 2) (.bop .mul (.var 2) (.var 3))]) (ms.map PyData.int) [a, b, some (.val (.int x)), x3, x4, x5, x6] = .ok (.nx [a, b, some (.val (.int (ms.foldl (· * ·) x))), y, x4, x5, x6]) := by
  have key : ∀ (ms : List Int) (x : Int) (k : Nat) (x3 : Option Tg.B), (∀ m ∈ ms, m.natAbs < 2 ^ B) → x.natAbs < 2 ^ k → k + B * ms.length ≤ 500000 → ∃ y, forD (forF Φ (.nm 3) [.asg (.nm 2) (.bop .mul (.var 2) (.var 3))]) (ms.map PyData.int) [a, b, some (.val (.int x)), x3, x4, x5, x6] = .ok (.nx [a, b, some (.val (.int (ms.foldl (· * ·) x))), y, x4, x5, x6]) := by
    intro ms
    induction ms with
    | nil => intro x k x3 _ _ _; exact ⟨x3, rfl⟩
    | cons m ms ih =>
      intro x k x3 hm hx hk
      rw [List.length_cons, Nat.mul_add, Nat.mul_one] at hk
      have mb := hm m List.mem_cons_self
      obtain ⟨y, hy⟩ := ih (x * m) (k + B) (some (.val (.int m))) (fun z hz => hm z (List.mem_cons_of_mem _ hz)) (bd_mul hx mb) (by omega)
      refine ⟨y, ?_⟩
      rw [List.map_cons, List.foldl_cons]
      have e : forF Φ (.nm 3) [.asg (.nm 2) (.bop .mul (.var 2) (.var 3))] (.int m) [a, b, some (.val (.int x)), x3, x4, x5, x6] = .ok (.nx [a, b, some (.val (.int (x * m))), some (.val (.int m)), x4, x5, x6]) := by
        walk_at "ev"
      rw [for_cons, e]
      exact hy
  exact fun x hx => key ms x 8 x3 hB hx (by omega)
theorem foldl_dvd : ∀ {ms : List Int} {x : Int}, x ∣ ms.foldl (· * ·) x ∧ ∀ m ∈ ms, m ∣ ms.foldl (· * ·) x
  | [], x => ⟨Int.dvd_refl x, fun m h => by cases h⟩
  | m :: ms, x => by
    obtain ⟨h1, h2⟩ := foldl_dvd (ms := ms) (x := x * m)
    refine ⟨Int.dvd_trans (Int.dvd_mul_right _ _) h1, fun y hy => ?_⟩
    rcases List.mem_cons.mp hy with rfl | hy
    · exact Int.dvd_trans (Int.dvd_mul_left _ _) h1
    · exact h2 y hy
theorem foldl_mul (ms : List Int) (x : Int) : ms.foldl (· * ·) x = x * prodI ms := by
  unfold prodI
  have : ∀ (ms : List Int) (x y : Int), ms.foldl (· * ·) (x * y) = x * ms.foldl (· * ·) y := by
    intro ms
    induction ms with
    | nil => intro x y; rfl
    | cons m ms ih => intro x y; rw [List.foldl_cons, List.foldl_cons, Int.mul_assoc]; exact ih x (y * m)
  have := this ms x 1
  rwa [Int.mul_one] at this
theorem prodI_cons (m : Int) (ms : List Int) : prodI (m :: ms) = m * prodI ms := by
  show (m :: ms).foldl (· * ·) 1 = _
  rw [List.foldl_cons, foldl_mul, Int.one_mul]
def tns (ss : List Q) : List D := ss.map fun s => tn (Tn.of s)
theorem Int.le_mul_of_one_le' {a b : Int} (ha : 0 < a) (hb : 0 < b) : a ≤ a * b := by
  have := Int.mul_le_mul_of_nonneg_left (show (1 : Int) ≤ b by omega) (Int.le_of_lt ha)
  omega
theorem run_parts {m : Nat} (hm2 : m ≤ 219) : ∀ (ms : List Int) (ss : List Q) (x : Q) (a b x2 x3 x6 : Option Tg.B), St x → PrimO x → x ≠ sNo → wt x < 2 ^ (2 * m) → (∀ n ∈ ms, 0 < n ∧ n % 2 = 1) → prodI ms ∣ wt x → ss.length + ms.length ≤ 1000 →
    ∃ (ts : List Q) (u : Q) (y3 y6 : Option Tg.B), forD (forF (phi [d_quad_of, d_common, d_turn_of]) (.nm 3) [.asg (.nm 6) (.call 1 [.var 4, .tup [.bop .mul (.con (.int 2)) (.var 3), .con (.int 0), .con (.int 0), .con (.int 0)]]), .app 5 (.call 2 [.ix (.var 6) (.con (.int 0))]), .asg (.nm 4) (.ix (.var 6) (.con (.int 3)))]) (ms.map PyData.int) [a, b, x2, x3, some (.val (q4 x)), some (.own (tns ss)), x6] = .ok (.nx [a, b, x2, y3, some (.val (q4 u)), some (.own (tns (ss ++ ts))), y6]) ∧
      ts.length = ms.length ∧ (∀ (i : Nat) (s : Q) (n : Int), ts[i]? = some s → ms[i]? = some n → (Tn.of s).n = n) ∧ (∀ s ∈ ts, s ≠ Q.zero ∧ s.ok (m + 1)) ∧ St u ∧ PrimO u ∧ u ≠ sNo ∧ wt u < 2 ^ (2 * m) ∧ wt u * prodI ms = wt x ∧ ∃ k : Int, k ≠ 0 ∧ (Q.prod ts).mul u = Q.sc k x := by
  intro ms
  induction ms with
  | nil =>
    intro ss x a b x2 x3 x6 sx px x0 wx _ _ _
    exact ⟨[], x, x3, x6, by rw [List.append_nil]; rfl, rfl, (fun i s n h _ => by simp at h), (fun s h => by cases h), sx, px, x0, wx, (by show wt x * 1 = wt x; omega), 1, (by decide), (by rw [Q.prod_nil, Q.one_mul]; cases x; simp [Q.sc])⟩
  | cons n ms ih =>
    intro ss x a b x2 x3 x6 sx px x0 wx hpos hdvd hlen
    rw [prodI_cons] at hdvd
    obtain ⟨n0, nodd⟩ := hpos n List.mem_cons_self
    have nd : n ∣ wt x := Int.dvd_trans (Int.dvd_mul_right _ _) hdvd
    have wp := wt_pos sx x0
    have nle : n ≤ wt x := Int.le_of_dvd wp nd
    have xo : x.ok (m + 1) := wt_ok sx wx
    have no : (⟨2 * n, 0, 0, 0⟩ : Q).ok (2 * m + 2) := by
      have e2 : ((2 ^ (2 * m) : Nat) : Int) = 2 ^ (2 * m) := pow_nat _
      have e3 : 2 ^ (2 * m + 2) = 4 * 2 ^ (2 * m) := by rw [Nat.pow_add, Nat.mul_comm]
      exact ⟨by dsimp only; omega, Nat.pow_pos (by decide), Nat.pow_pos (by decide), Nat.pow_pos (by decide)⟩
    have oddn : n % 2 = 1 := nodd
    obtain ⟨s, ca, cb, u, v, e1, hC, so, ao, bo, uo, vo⟩ := run_common (P := 2 * m + 2) sx (st_whole n) (Q.ok_mono xo (by omega)) no (by omega)
    obtain ⟨w1, w2, ps, pu⟩ := com_prim sx px n0 nodd nd hC
    have s0 : s ≠ Q.zero := fun e => by rw [e] at w1; have : wt Q.zero = 0 := rfl; omega
    have un : wt u ≠ 0 := fun e => by rw [e] at w2; omega
    have u0 : u ≠ sNo := fun e => un (by rw [e, wt_no])
    have up := wt_pos hC.su u0
    have wu : wt u ≤ wt x := by rw [← w2]; exact Int.le_mul_of_one_le' up n0
    have so' : s.ok (m + 1) := wt_ok hC.ss (by omega)
    have e2 := run_turn_of s0 so' (by omega)
    have dv2 : prodI ms ∣ wt u := by
      rw [← w2, Int.mul_comm n] at hdvd
      obtain ⟨k, hk⟩ := hdvd
      exact ⟨k, by
        have : n * wt u = n * (prodI ms * k) := by
          rw [Int.mul_comm n (wt u), hk]; grind
        exact Int.eq_of_mul_eq_mul_left (by omega) this⟩
    obtain ⟨ts, u', y3, y6, f1, f2, f3, f4, f5, f6, f7, f8, f9, k, k0, f10⟩ := ih (ss ++ [s]) u a b x2 (some (.val (.int n))) (some (.val (.tuple [q4 s, q4 ca, q4 cb, q4 u, q4 v]))) hC.su pu u0 (by omega) (fun z hz => hpos z (List.mem_cons_of_mem _ hz)) dv2 (by rw [List.length_append]; simp at hlen ⊢; omega)
    refine ⟨s :: ts, u', y3, y6, ?_, by simp [f2], ?_, ?_, f5, f6, f7, f8, ?_, 2 * k, by omega, ?_⟩
    · have i0 : ∀ a b c d e : D, ixO (L2.atI [a, b, c, d, e] 0) = .ok (.val a) := fun a b c d e => by rw [at_0]; rfl
      have i3 : ∀ a b c d e : D, ixO (L2.atI [a, b, c, d, e] 3) = .ok (.val d) := fun a b c d e => by rw [at_3]; rfl
      have ll : lineOk (tns ss).length = true := line_lt (by unfold tns; rw [List.length_map]; simp at hlen; omega)
      have nb : n.natAbs < 2 ^ (2 * m + 2) := by
        have := no.1
        dsimp only at this
        omega
      have e1' : d_common [q4 x, .tuple [.int (2 * n), .int 0, .int 0, .int 0]] = .ok (.val (.tuple [q4 s, q4 ca, q4 cb, q4 u, q4 v])) := e1
      have eF : forF (phi [d_quad_of, d_common, d_turn_of]) (.nm 3) [.asg (.nm 6) (.call 1 [.var 4, .tup [.bop .mul (.con (.int 2)) (.var 3), .con (.int 0), .con (.int 0), .con (.int 0)]]), .app 5 (.call 2 [.ix (.var 6) (.con (.int 0))]), .asg (.nm 4) (.ix (.var 6) (.con (.int 3)))] (.int n) [a, b, x2, x3, some (.val (q4 x)), some (.own (tns ss)), x6] = .ok (.nx [a, b, x2, some (.val (.int n)), some (.val (q4 u)), some (.own (tns (ss ++ [s]))), some (.val (.tuple [q4 s, q4 ca, q4 cb, q4 u, q4 v]))]) := by
        have tS : tns ss ++ [tn (Tn.of s)] = tns (ss ++ [s]) := by unfold tns; rw [List.map_append]; rfl
        repeat (first | walk_at "ev" | rw [e1'] | rw [i0] | rw [i3] | rw [e2] | rw [ll])
        rw [tS]
      rw [List.map_cons, for_cons, eF]
      have : ss ++ s :: ts = ss ++ [s] ++ ts := by simp
      rw [this]
      exact f1
    · intro i t n' h1 h2
      cases i with
      | zero =>
        simp at h1 h2
        subst h1 h2
        exact bottom_of (j := 2) s0 ps n0 nodd (by rw [wt_spec hC.ss, w1]; omega)
      | succ i => exact f3 i t n' (by simpa using h1) (by simpa using h2)
    · intro t ht
      rcases List.mem_cons.mp ht with rfl | ht
      · exact ⟨s0, so'⟩
      · exact f4 t ht
    · rw [prodI_cons, ← w2, ← f9]; grind
    · rw [Q.prod_cons, Q.mul_assoc, f10, Q.mul_sc, (hm_spec hC.ss hC.su).1, ← hC.x, Q.sc_sc, Int.mul_comm]
theorem run_parted {p : Q} {ms : List Int} {m : Nat} (hm2 : m ≤ 219) (hm3 : 5 ≤ m) (hp0 : p ≠ Q.zero) (hg : p.g = 1) (ps : p.size < 2 ^ (2 * m)) (e : d_quad_of [tn (Tn.of p)] = .ok (.val (q4 p))) (hpos : ∀ n ∈ ms, 0 < n) (hprod : prodI ms = (Tn.of p).n) (hlen : ms.length ≤ 500) :
    ∃ (ts : List Q) (u : Q), d_parted [tn (Tn.of p), .list (ms.map PyData.int)] = .ok (.own (tns ts ++ [tn (Tn.of u)])) ∧ ts.length = ms.length ∧ (∀ (i : Nat) (s : Q) (n : Int), ts[i]? = some s → ms[i]? = some n → (Tn.of s).n = n) ∧ (∀ s ∈ ts, s ≠ Q.zero ∧ s.ok (m + 1)) ∧ u ≠ Q.zero ∧ u.ok (m + 1) ∧ (Tn.of u).n = 1 ∧ Tn.of ((Q.prod ts).mul u) = Tn.of p := by
  obtain ⟨G, hG, es, ho⟩ := two_part hg hp0
  have hn := Tn.of_n hp0
  have sx : St (Q.sc 2 p) := by unfold St Q.sc; dsimp only; omega
  have wx : wt (Q.sc 2 p) = p.size := by unfold wt; rw [size_sc]; omega
  have dn : ∀ n ∈ ms, n ∣ (Tn.of p).n := fun n hn => by rw [← hprod]; exact (foldl_dvd (x := 1)).2 n hn
  have odd : ∀ n ∈ ms, 0 < n ∧ n % 2 = 1 := fun n hn' => by
    refine ⟨hpos n hn', ?_⟩
    obtain ⟨k, hk⟩ := dn n hn'
    rcases (show n % 2 = 0 ∨ n % 2 = 1 by omega) with h | h
    · rw [hk, Int.mul_emod, h] at ho; simp at ho
    · exact h
  have hG0 : 0 < G := by rcases hG with rfl | rfl | rfl <;> decide
  have x0 : Q.sc 2 p ≠ sNo := fun e => by
    have := congrArg wt e
    rw [wx, wt_no] at this
    have := Q.size_pos hp0
    omega
  have nle : (Tn.of p).n ≤ p.size := by rw [es, Int.mul_comm]; exact Int.le_mul_of_one_le' hn hG0
  have nb : ∀ n ∈ ms, n.natAbs < 2 ^ (2 * m) := fun n hn' => by
    have h1 := Int.le_of_dvd hn (dn n hn')
    have h2 := hpos n hn'
    have := pow_nat (2 * m)
    omega
  obtain ⟨y, f1⟩ := run_total (Φ := phi [d_quad_of, d_common, d_turn_of]) nb (by
    have : 2 * m * ms.length ≤ 438 * 500 := Nat.mul_le_mul (by omega) hlen
    omega) (by omega) (some (.val (tn (Tn.of p)))) (some (.val (.list (ms.map PyData.int)))) none none none none 1 (by decide)
  obtain ⟨ts, u, y3, y6, g1, g2, g3, g4, g5, g6, g7, g8, g9, k, k0, g10⟩ := run_parts hm2 ms [] (Q.sc 2 p) (some (.val (tn (Tn.of p)))) (some (.val (.list (ms.map PyData.int)))) (some (.val (.int (prodI ms)))) y none sx (primO_of hg) x0 (by rw [wx]; exact ps) odd (by rw [wx, es, hprod]; exact Int.dvd_mul_left _ _) (by simp; omega)
  have wu : wt u = G := by
    rw [wx, es, hprod] at g9
    exact Int.eq_of_mul_eq_mul_right (by omega) g9
  have u0 : u ≠ Q.zero := g7
  have uo : u.ok (m + 1) := wt_ok g5 g8
  have un : (Tn.of u).n = 1 := by
    have sz := wt_spec g5
    rw [wu] at sz
    rcases hG with rfl | rfl | rfl
    · exact bottom_of (j := 2) u0 g6 (by decide) (by decide) (by rw [sz]; rfl)
    · exact bottom_of (j := 3) u0 g6 (by decide) (by decide) (by rw [sz]; rfl)
    · exact bottom_of (j := 4) u0 g6 (by decide) (by decide) (by rw [sz]; rfl)
  have e3 := run_turn_of u0 uo (by omega)
  refine ⟨ts, u, o_parted ?_, g2, g3, g4, u0, uo, un, ?_⟩
  · unfold b_parted
    have pe : (!(prodI ms == (Tn.of p).n)) = false := by simpa using hprod
    have vq : List.map PyData.int p.vs = [.int p.a, .int p.b, .int p.c, .int p.d] := rfl
    have po : p.ok (m + 1) := by
      have key : ∀ x : Int, x * x ≤ p.size → x.natAbs < 2 ^ (m + 1) := fun x hx => by
        rcases Nat.lt_or_ge x.natAbs (2 ^ (m + 1)) with h1 | h1
        · exact h1
        · exfalso
          have h2 := Nat.mul_le_mul h1 h1
          have h3 : 2 ^ (m + 1) * 2 ^ (m + 1) = 4 * 2 ^ (2 * m) := by
            rw [← Nat.pow_add, show m + 1 + (m + 1) = 2 * m + 2 by omega, Nat.pow_add]; omega
          have h4 : ((x.natAbs * x.natAbs : Nat) : Int) = x * x := by
            rw [← Int.natAbs_mul]
            have := sq_nn x
            omega
          have h5 := pow_nat (2 * m)
          omega
      have s1 := sq_nn p.a; have s2 := sq_nn p.b; have s3 := sq_nn p.c; have s4 := sq_nn p.d
      unfold Q.size at key
      exact ⟨key _ (by omega), key _ (by omega), key _ (by omega), key _ (by omega)⟩
    obtain ⟨q1, q2, q3, q4'⟩ := po
    have t2 : PyData.tuple [.int (2 * p.a), .int (2 * p.b), .int (2 * p.c), .int (2 * p.d)] = q4 (Q.sc 2 p) := rfl
    have ll : lineOk (tns ts).length = true := line_lt (by unfold tns; rw [List.length_map]; omega)
    rw [show ms.foldl (· * ·) 1 = prodI ms from rfl] at f1
    rw [List.nil_append] at g1
    rw [show tns [] = [] from rfl] at g1
    repeat (first | walk_at "ev" | rw [f1] | rw [pe] | rw [e] | rw [vq] | rw [t2] | rw [g1] | rw [e3] | rw [ll])
  · rw [g10, Q.sc_sc]
    exact Tn.of_sc hp0 (by omega)
def l3 (v : V3) : D := .list [.int v.x, .int v.y, .int v.z]
end Lb
namespace Lb
open PySem Tg
def b_turnofdial : List S :=
   [.asg (.tp [.nm 1, .nm 2]) (.var 0),
    .ite (.or (.cmp .eq (.bop .mod (.var 2) (.con (.int 2))) (.con (.int 0))) (.or (.cmp .ne (.call 1 [.lst [.var 2, .ix (.var 1) (.con (.int 0)), .ix (.var 1) (.con (.int 1)), .ix (.var 1) (.con (.int 2))]]) (.con (.int 1))) (.cmp .ne (.bop .mod (.call 0 [.var 1, .var 1]) (.var 2)) (.con (.int 0))))) [.raise 3] [],
    .ret (.call 2 [.ix (.call 3 [.tup [.bop .mul (.con (.int 2)) (.var 2), .con (.int 0), .con (.int 0), .con (.int 0)], .tup [.con (.int 0), .bop .mul (.con (.int 2)) (.ix (.var 1) (.con (.int 0))), .bop .mul (.con (.int 2)) (.ix (.var 1) (.con (.int 1))), .bop .mul (.con (.int 2)) (.ix (.var 1) (.con (.int 2)))]]) (.con (.int 0))])]
noncomputable def d_turnofdial : List D → M B := runF (phi [d_times, d_divisor, d_turn_of, d_common]) 1 3 b_turnofdial
theorem o_turnofdial {x0 : D} {r : M B} (h : endD (exL (phi [d_times, d_divisor, d_turn_of, d_common]) b_turnofdial [some (.val x0), none, none]) = r) : d_turnofdial [x0] = r := run_of rfl rfl h
end Lb
namespace Lb
open PySem Tg
local macro_rules | `(tactic| walk_at "bd") => `(tactic| first | assumption | exact near_b3 | exact near_b6 | exact near_b9 | exact near_b999 | exact near_b1000 | exact near_b12 | exact near_b15 | exact near_b20 | exact near_b30 | exact near_b60 | exact bd_lit rfl (by decide) | (refine' bd_add ?h1 ?h2; (case h1 => walk_at "bd"); (case h2 => walk_at "bd")) | (refine' bd_sub ?h1 ?h2; (case h1 => walk_at "bd"); (case h2 => walk_at "bd")) | (refine' bd_mul ?h1 ?h2; (case h1 => walk_at "bd"); (case h2 => walk_at "bd")) | (refine' bd_neg ?_; walk_at "bd"))
local macro_rules | `(tactic| walk_at "ok") => `(tactic| first | assumption | decide | (refine line_lt ?_; (first | omega | (simp only [List.length_map, List.length_set, List.length_append, List.length_cons, List.length_nil, List.length_reverse]; omega))) | (refine' mulOk_of ?h1 ?h2 ?h3; (case h1 => walk_at "bd"); (case h2 => walk_at "bd"); (case h3 => first | decide | omega | (simp only [Nat.max_def]; first | decide | omega))) | (refine divOk_of ?_ ?_ <;> first | assumption | decide +kernel | omega) | omega | (simp -implicitDefEqProofs only [allI_nil, allI_cons, allI_map, allI_app, Bool.and_self, Bool.and_true]; done))
def pureQ (v : V3) : Q := ⟨0, v.x, v.y, v.z⟩
theorem Com.swap {x y s a b u v : Q} (h : Com x y s a b u v) : Com y x s b a v u := ⟨h.ss, h.sb, h.sa, h.sv, h.su, by rw [h.e]; simp only [Q.add, Q.mk.injEq]; omega, h.y, h.x⟩
theorem g_left {s u : Q} (hs : St s) (hu : St u) {d : Nat} (hd : d % 2 = 1) (h2 : d ∣ s.g) : d ∣ (hm s u).g := by
  have key : ∀ x ∈ s.vs, (d : Int) ∣ x := fun x hx => Int.dvd_trans (Int.ofNat_dvd.mpr h2) (gcdL_dvd hx)
  have ka := key s.a (by simp [Q.vs]); have kb := key s.b (by simp [Q.vs]); have kc := key s.c (by simp [Q.vs]); have kd := key s.d (by simp [Q.vs])
  have two : ∀ z : Int, (d : Int) ∣ 2 * z → (d : Int) ∣ z := fun z hz => cop_dvd (s := 2) (by
    have h6 := Nat.gcd_dvd_left d 2
    have h4 := Nat.gcd_dvd_right d 2
    have := Nat.le_of_dvd (by decide) h4
    have h5 : Nat.gcd d 2 = 0 ∨ Nat.gcd d 2 = 1 ∨ Nat.gcd d 2 = 2 := by omega
    rcases h5 with h5 | h5 | h5
    · rw [h5] at h4; omega
    · exact h5
    · rw [h5] at h6; omega) hz
  have e := (hm_spec hs hu).1
  have ea := congrArg Q.a e; have eb := congrArg Q.b e; have ec := congrArg Q.c e; have ed := congrArg Q.d e
  simp only [Q.mul, Q.sc] at ea eb ec ed
  have m : ∀ {x : Int} (y : Int), (d : Int) ∣ x → (d : Int) ∣ x * y := fun y h => Int.dvd_mul_of_dvd_left h
  refine dvd_gcdL fun x hx => ?_
  simp only [Q.vs, List.mem_cons, List.not_mem_nil, or_false] at hx
  rcases hx with rfl | rfl | rfl | rfl
  · exact two _ (by rw [← ea]; exact Int.dvd_sub (Int.dvd_sub (Int.dvd_sub (m _ ka) (m _ kb)) (m _ kc)) (m _ kd))
  · exact two _ (by rw [← eb]; exact Int.dvd_sub (Int.dvd_add (Int.dvd_add (m _ ka) (m _ kb)) (m _ kc)) (m _ kd))
  · exact two _ (by rw [← ec]; exact Int.dvd_add (Int.dvd_add (Int.dvd_sub (m _ ka) (m _ kb)) (m _ kc)) (m _ kd))
  · exact two _ (by rw [← ed]; exact Int.dvd_add (Int.dvd_sub (Int.dvd_add (m _ ka) (m _ kb)) (m _ kc)) (m _ kd))
theorem odd_two {d : Nat} (hd : d % 2 = 1) {z : Int} (hz : (d : Int) ∣ 2 * z) : (d : Int) ∣ z := cop_dvd (s := 2) (by
    have h6 := Nat.gcd_dvd_left d 2
    have h4 := Nat.gcd_dvd_right d 2
    have := Nat.le_of_dvd (by decide) h4
    have h5 : Nat.gcd d 2 = 0 ∨ Nat.gcd d 2 = 1 ∨ Nat.gcd d 2 = 2 := by omega
    rcases h5 with h5 | h5 | h5
    · rw [h5] at h4; omega
    · exact h5
    · rw [h5] at h6; omega) hz
theorem com_prim2 {x : Q} (sx : St x) {m : Int} (hp : ∀ d : Nat, d % 2 = 1 → d ∣ x.g → (d : Int) ∣ m → d = 1) (hm0 : 0 < m) (hodd : m % 2 = 1) (hd : m ∣ wt x) {s a b u v : Q} (h : Com x ⟨2 * m, 0, 0, 0⟩ s a b u v) : wt s = m ∧ PrimO s := by
  have wy : wt ⟨2 * m, 0, 0, 0⟩ = m * m := by
    unfold wt
    have : (⟨2 * m, 0, 0, 0⟩ : Q).size = 4 * (m * m) := by simp only [Q.size]; grind
    rw [this]; omega
  have hx := h.x
  have hy := h.y
  have e1 : wt x = wt s * wt u := by conv => lhs; rw [hx, wt_hm h.ss h.su]
  have e2 : m * m = wt s * wt v := by rw [← wy, hy, wt_hm h.ss h.sv]
  have e3 : ∃ d, wt s = m * d := by
    obtain ⟨N, hN⟩ := hd
    have es := h.e
    have yb : hm ⟨2 * m, 0, 0, 0⟩ b = Q.sc m b := whole_hm m b
    rw [yb] at es
    have sA := (hm_spec sx h.sa).2
    have wA : wt (hm x a) = wt x * wt a := wt_hm sx h.sa
    obtain ⟨k, hk⟩ := dot_even sA h.sb
    have z1 := wt_spec h.ss
    have z2 : s.size = (hm x a).size + 2 * (m * dotQ (hm x a) b) + (Q.sc m b).size := by
      conv => lhs; rw [es]
      rw [size_add, dot_sc_r]
    rw [wt_spec sA, wA, hk, size_sc, wt_spec h.sb, hN] at z2
    exact ⟨N * wt a + k + m * wt b, by
      have : 4 * wt s = 4 * (m * (N * wt a + k + m * wt b)) := by rw [← z1, z2]; grind
      omega⟩
  obtain ⟨d, ed⟩ := e3
  have e4 : d * wt v = m := by
    rw [ed] at e2
    have : m * (d * wt v) = m * m := by rw [e2]; grind
    exact Int.eq_of_mul_eq_mul_left (by omega) this
  have vp : wt v ≠ 0 := fun z => by rw [z, Int.mul_zero] at e4; omega
  have wvp : 0 < wt v := by have := wt_nn v; omega
  have dp : 0 < d := by
    rcases Int.lt_or_le 0 d with h1 | h1
    · exact h1
    · have := Int.mul_nonpos_of_nonpos_of_nonneg h1 (Int.le_of_lt wvp); omega
  have e5 : s = Q.sc d v.conj := by
    have cv := st_conj h.sv
    have l1 : hm (hm s v) v.conj = Q.sc (wt v) s := by
      rw [hm_assoc h.ss h.sv cv]
      have : hm v v.conj = ⟨2 * wt v, 0, 0, 0⟩ := by
        have := conj_hm' cv
        rw [Tn.of_conj_conj, wt_conj] at this
        exact this
      rw [this, hm_whole]
    have l2 : hm (hm s v) v.conj = Q.sc m v.conj := by rw [← hy, whole_hm]
    have l3 : Q.sc (wt v) s = Q.sc (wt v) (Q.sc d v.conj) := by rw [← l1, l2, Q.sc_sc, Int.mul_comm, e4]
    exact Q.sc_inj vp l3
  have e6 : x = Q.sc d (hm v.conj u) := by
    conv => lhs; rw [hx, e5]
    exact hm_eq (by rw [Q.sc_mul, (hm_spec (st_conj h.sv) h.su).1, Q.sc_sc, Q.sc_sc, Int.mul_comm])
  have dodd : d.natAbs % 2 = 1 := by
    have : (d * wt v) % 2 = 1 := by rw [e4]; exact hodd
    rcases (show d % 2 = 0 ∨ d % 2 = 1 by omega) with h1 | h1
    · rw [Int.mul_emod, h1] at this; simp at this
    · omega
  have d1 : d.natAbs ∣ x.g := by
    conv => rhs; rw [e6]
    rw [Q.g_sc]; exact ⟨_, rfl⟩
  have d2 := hp _ dodd d1 (by rw [Int.natAbs_of_nonneg (Int.le_of_lt dp)]; exact ⟨wt v, e4.symm⟩)
  have d3 : d = 1 := by omega
  rw [d3, Int.mul_one] at ed
  refine ⟨ed, fun e he h2 => hp e he (by rw [hx]; exact g_left h.ss h.su he h2) ?_⟩
  have key : ∀ x ∈ s.vs, (e : Int) ∣ x := fun x hx => Int.dvd_trans (Int.ofNat_dvd.mpr h2) (gcdL_dvd hx)
  have ka := key s.a (by simp [Q.vs]); have kb := key s.b (by simp [Q.vs]); have kc := key s.c (by simp [Q.vs]); have kd := key s.d (by simp [Q.vs])
  have mm : ∀ {x : Int} (y : Int), (e : Int) ∣ x → (e : Int) ∣ x * y := fun y h => Int.dvd_mul_of_dvd_left h
  have k4 : (e : Int) ∣ 2 * (2 * m) := by
    have := wt_spec h.ss
    rw [ed] at this
    rw [show 2 * (2 * m) = s.size by omega]
    exact Int.dvd_add (Int.dvd_add (Int.dvd_add (mm _ ka) (mm _ kb)) (mm _ kc)) (mm _ kd)
  exact odd_two he (odd_two he k4)
theorem conj_pure {s : Q} {v : V3} : (s.conj.mul (pureQ v)).mul s = ⟨0, (Tn.ofQ s).cx.dot v, (Tn.ofQ s).cy.dot v, (Tn.ofQ s).cz.dot v⟩ := by
  simp only [Q.mul, Q.conj, pureQ, Tn.ofQ, Tn.cx, Tn.cy, Tn.cz, V3.dot, Q.mk.injEq]
  refine ⟨by grind, by grind, by grind, by grind⟩
theorem dial_shared {m : Int} {w : V3} {s a b u v' : Q} (h : Com (Q.sc 2 (pureQ w)) ⟨2 * m, 0, 0, 0⟩ s a b u v') (hs : wt s = m) {v : V3} (hv : m ∣ w.dot v) : ∃ z : Q, (s.conj.mul (pureQ v)).mul s = Q.sc m z := by
  obtain ⟨k, hk⟩ := hv
  have sW : St (Q.sc 2 (pureQ w)) := by unfold St; simp only [Q.sc, pureQ]; omega
  have h1 : s = ((pureQ w).mul a).add (Q.sc m b) := by
    have := h.e
    rw [whole_hm, hm_eq (p := Q.sc 2 (pureQ w)) (q := a) (r := (pureQ w).mul a) (Q.sc_mul 2 _ _)] at this
    exact this
  have h2 : s.conj.mul (pureQ w) = Q.sc m u := by
    have e1 := (hm_spec h.ss h.su).1
    rw [← h.x] at e1
    have e2 : s.conj.mul (s.mul u) = Q.sc (4 * m) u := by
      rw [← Q.mul_assoc]
      have : s.conj.mul s = ⟨s.size, 0, 0, 0⟩ := by simp only [Q.mul, Q.conj, Q.size, Q.mk.injEq]; refine ⟨by grind, by grind, by grind, by grind⟩
      rw [this, wt_spec h.ss, hs]
      simp only [Q.mul, Q.sc, Q.mk.injEq]; refine ⟨by grind, by grind, by grind, by grind⟩
    rw [e1, Q.mul_sc, Q.mul_sc, Q.sc_sc] at e2
    refine Q.sc_inj (show (2 * 2 : Int) ≠ 0 by decide) ?_
    rw [e2, Q.sc_sc]; rfl
  have h3 : (pureQ v).mul (pureQ w) = (Q.sc (-2 * (m * k)) ⟨1, 0, 0, 0⟩).sub ((pureQ w).mul (pureQ v)) := by
    rw [← hk]
    simp only [Q.mul, pureQ, Q.sub, Q.sc, V3.dot, Q.mk.injEq]; refine ⟨by grind, by grind, by grind, by grind⟩
  have h4 : (s.conj.mul (pureQ v)).mul (pureQ w) = Q.sc m ((Q.sc (-2 * k) s.conj).sub (u.mul (pureQ v))) := by
    rw [Q.mul_assoc, h3, Q.mul_sub, ← Q.mul_assoc, h2, Q.sc_mul, Q.mul_sc, Q.sc_sub, Q.sc_sc]
    have : s.conj.mul ⟨1, 0, 0, 0⟩ = s.conj := by cases s; simp [Q.mul, Q.conj]
    rw [this, show -2 * (m * k) = m * (-2 * k) by grind]
  refine ⟨(((Q.sc (-2 * k) s.conj).sub (u.mul (pureQ v))).mul a).add ((s.conj.mul (pureQ v)).mul b), ?_⟩
  conv => lhs; rw [show (s.conj.mul (pureQ v)).mul s = (s.conj.mul (pureQ v)).mul (((pureQ w).mul a).add (Q.sc m b)) by rw [← h1]]
  rw [Q.mul_add, ← Q.mul_assoc, h4, Q.sc_mul, Q.mul_sc, Q.sc_add]
theorem le_of_sq {x n R : Int} (hn : 0 ≤ n) (h : x * x + R = n * n) (hR : 0 ≤ R) : x.natAbs ≤ n.natAbs := by
  have : x * x ≤ n * n := by omega
  refine Nat.le_of_not_lt fun hl => ?_
  have q := Nat.mul_le_mul hl hl
  have a := Int.natAbs_mul_self (a := x)
  have b := Int.natAbs_mul_self (a := n)
  have c : (n.natAbs + 1) * (n.natAbs + 1) = n.natAbs * n.natAbs + 2 * n.natAbs + 1 := by grind
  simp only [Nat.succ_eq_add_one] at q
  omega
theorem Up.ok {T : Tn} (h : Up T) {k : Nat} (hk : T.n.natAbs < 2 ^ k) : T.ok k := by
  have hn := Int.le_of_lt h.n
  have row : ∀ {v : V3}, v.dot v = T.n * T.n → v.ok k := fun {v} e => by
    have a := sq_nn v.x; have b := sq_nn v.y; have c := sq_nn v.z
    unfold V3.dot at e
    have l1 := le_of_sq (x := v.x) hn (R := v.y * v.y + v.z * v.z) (by omega) (by omega)
    have l2 := le_of_sq (x := v.y) hn (R := v.x * v.x + v.z * v.z) (by omega) (by omega)
    have l3 := le_of_sq (x := v.z) hn (R := v.x * v.x + v.y * v.y) (by omega) (by omega)
    exact ⟨by omega, by omega, by omega⟩
  exact ⟨row h.pp, row h.qq, row h.rr, hk⟩
structure DT (m : Int) (w : V3) (s : Q) : Prop where
  ne : s ≠ Q.zero
  st : St s
  hwt : Lb.wt s = m
  pr : PrimO s
  n : (Tn.of s).n = m
  sh : ∀ v, Shd (Tn.of s) v ↔ m ∣ w.dot v
theorem DT.of {m : Int} {w : V3} {s a b u v' : Q} (hm0 : 0 < m) (hodd : m % 2 = 1) {P : Nat} (mb : m.natAbs < 2 ^ P) (hP : P ≤ 8000) (hg : g4 m w = 1) (hw : m ∣ w.dot w) (h : Com (Q.sc 2 (pureQ w)) ⟨2 * m, 0, 0, 0⟩ s a b u v') : DT m w s := by
  have sW : St (Q.sc 2 (pureQ w)) := by unfold St; simp only [Q.sc, pureQ]; omega
  have wW : wt (Q.sc 2 (pureQ w)) = w.dot w := by
    have : (Q.sc 2 (pureQ w)).size = 4 * w.dot w := by simp only [Q.sc, pureQ, Q.size, V3.dot]; grind
    unfold wt; rw [this]; omega
  obtain ⟨e1, e2⟩ := com_prim2 sW (m := m) (fun d hd h2 h3 => by
    have key : ∀ x ∈ (Q.sc 2 (pureQ w)).vs, (d : Int) ∣ x := fun x hx => Int.dvd_trans (Int.ofNat_dvd.mpr h2) (gcdL_dvd hx)
    have kb := key (2 * w.x) (by simp [Q.vs, Q.sc, pureQ]); have kc := key (2 * w.y) (by simp [Q.vs, Q.sc, pureQ]); have kd := key (2 * w.z) (by simp [Q.vs, Q.sc, pureQ])
    have := dvd_g4 h3 (odd_two hd kb) (odd_two hd kc) (odd_two hd kd)
    rw [hg] at this
    exact Nat.eq_one_of_dvd_one this) hm0 hodd (by rw [wW]; exact hw) h
  have ne : s ≠ Q.zero := fun z => by rw [z] at e1; have : wt Q.zero = 0 := rfl; omega
  have hn := bottom_of (x := s) (m := m) (j := 2) ne e2 hm0 hodd (by rw [wt_spec h.ss, e1]; rfl)
  have L := Tn.lw (T := Tn.ofQ s) (Q.size_pos ne)
  have g4' : (Tn.ofQ s).g = 4 := by
    have := congrArg Tn.n L.e
    simp only [Tn.sc] at this
    have q : (Tn.ofQ s).n = 4 * m := by show s.size = 4 * m; rw [wt_spec h.ss, e1]
    have q2 : (Tn.ofQ s).low.n = m := hn
    rw [q, q2] at this
    exact Int.eq_of_mul_eq_mul_right (show m ≠ 0 by omega) this.symm
  have to : ∀ v, m ∣ w.dot v → Shd (Tn.of s) v := fun v hv => by
    obtain ⟨z, hz⟩ := dial_shared h e1 hv
    rw [conj_pure, L.e, g4'] at hz
    have o : m.natAbs % 2 = 1 := by omega
    have dm : ∀ x : Int, m ∣ 4 * x → m ∣ x := fun x hx => by
      have a1 : ((m.natAbs : Nat) : Int) = m := by omega
      rw [← a1] at hx ⊢
      exact odd_two o (odd_two o (by rw [← Int.mul_assoc]; exact hx))
    have hb := congrArg Q.b hz; have hc := congrArg Q.c hz; have hd := congrArg Q.d hz
    simp only [Q.sc, Tn.sc, V3.sc, Tn.cx, Tn.cy, Tn.cz, V3.dot] at hb hc hd
    unfold Shd
    rw [hn]
    refine ⟨dm _ ⟨z.b, ?_⟩, dm _ ⟨z.c, ?_⟩, dm _ ⟨z.d, ?_⟩⟩
    · rw [← hb]; show 4 * ((Tn.ofQ s).low.cx.dot v) = _; simp only [Tn.cx, V3.dot]; grind
    · rw [← hc]; show 4 * ((Tn.ofQ s).low.cy.dot v) = _; simp only [Tn.cy, V3.dot]; grind
    · rw [← hd]; show 4 * ((Tn.ofQ s).low.cz.dot v) = _; simp only [Tn.cz, V3.dot]; grind
  refine ⟨ne, h.ss, e1, e2, hn, fun v => ⟨fun hv => ?_, to v⟩⟩
  have To : (Tn.of s).ok P := (IsT.of ne).u.ok (by rw [hn]; exact mb)
  obtain ⟨w', _, hw', _⟩ := run_dial_of ne To hP
  have s1 := (hw'.sh _).mpr (to ⟨0, w.z, -w.y⟩ (by simp only [V3.dot]; exact ⟨0, by grind⟩))
  have s2 := (hw'.sh _).mpr (to ⟨-w.z, 0, w.x⟩ (by simp only [V3.dot]; exact ⟨0, by grind⟩))
  have s3 := (hw'.sh _).mpr (to ⟨w.y, -w.x, 0⟩ (by simp only [V3.dot]; exact ⟨0, by grind⟩))
  have g' := hw'.g
  have hv' := (hw'.sh v).mpr hv
  rw [hn] at s1 s2 s3 g' hv'
  simp only [V3.dot] at s1 s2 s3
  refine Par.dvd (w := w') ⟨?_, ?_, ?_⟩ g' hv'
  · rw [show w'.x * w.y - w'.y * w.x = w'.x * w.y + w'.y * -w.x + w'.z * 0 by grind]; exact s3
  · rw [show w'.y * w.z - w'.z * w.y = w'.x * 0 + w'.y * w.z + w'.z * -w.y by grind]; exact s1
  · rw [show w'.z * w.x - w'.x * w.z = w'.x * -w.z + w'.y * 0 + w'.z * w.x by grind]; exact s2
local macro_rules | `(tactic| walk_at "ev") => `(tactic| simp -implicitDefEqProofs (disch := walk_at "ok") only [exL_nil, exL_cons, next_nx, next_rt, next_ct, next_ex, S_asg, S_set, S_put, S_app, S_ite, S_for, S_whl, S_ret, S_cont, S_pass, S_frz, S_raise, put_own, putK_i, app_own, frz_nil, frz_cons, frzK_own, frzK_val, E_var, E_con, E_glob, E_tup, E_lst, E_rep, E_bop, E_neg, E_not, E_and, E_or, E_cmp, E_ix, E_sl, E_bi, E_isi, E_call, E_lc, lcO_ok, L_nil, L_cons, Bs_nil, Bs_cons, bor_var, bor_con, bor_glob, bor_tup, bor_lst, bor_rep, bor_bop, bor_neg, bor_not, bor_and, bor_or, bor_cmp, bor_ix, bor_sl, bor_sl3, bor_inr, bor_call0, bor_bi, bor_isi, bor_call, bor_lc, lookE_val, lookB_val, lookB_own, valM_ok, valM_stuck, valM_ex, d_val, d_own, negD_i, notD_b, andD_t, andD_f, orD_t, orD_f, andD_b, orD_b, add_ii, sub_ii, mul_ii', fdiv_ii', mod_ii', pow10_9, pow10_10, pow10_12, pow10_15, pow10_20, pow10_30, pow10_60, pow10_120, add_ll, add_tt, lt_ii, le_ii, gt_ii, ge_ii, eq_ii, ne_ii, isN_d, notN_d, isB_bb, notB_bb, ix_l, ix_t, ixO_some, at_0, at_1, at_2, at_3, iteD_t, iteD_f, iteD_b, ret_var, retV_b, end_rt, end_nx, end_ex, ret_con, ret_glob, ret_tup, ret_lst, ret_rep, ret_bop, ret_neg, ret_not, ret_and, ret_or, ret_cmp, ret_ix, ret_sl, ret_sl3, ret_inr, ret_call0, safe_ok, inr_t, inr_f, S_tri, tri_ok, tri_ex, su_nil, su_cons, suD_is, suD_con, suD_two, suD_lst, suD_cat, suCat_l, E_sl3, E_inr, E_call0, mul_ti, List.map_cons, List.map_nil, ret_bi, ret_isi, ret_call, ret_lc, isi_ii, isi_ib, isi_it, isi_il, isi_in, isi_bi, isi_bb, isi_tt, isi_tl, isi_ti, isi_tn, isi_ll, isi_lt, bi_abs, bi_len_l, bi_len_t, bi_int_i, bi_int_b, bi_list_l, bi_list_t, bi_tuple_l, bi_tuple_t, bi_sum, bi_all, sumO_some, allO_some, bi_min2, bi_max2, phi_0, phi_1, phi_2, phi_s, bindT_nm, bindT_tp, bindT_tl, bindTs_nil, bindTs_cons, it_seq, it_zip_t, it_zip_l, it_rev, itL, itT, turn_0, turn_t, turn_f, wipe_nil, wipe_cons, forF_eq, whlC_eq, whlF_eq, lcF_eq, bind_ok, bind_stuck, bind_ex, List.set_cons_zero, List.set_cons_succ, List.getElem?_cons_zero, List.getElem?_cons_succ, if_true, if_false, Bool.false_eq_true, part_0, part_1, sl_l, sl_t, nonD, Bool.not_true, Bool.not_false, Bool.and_true, Bool.true_and, Bool.and_false, Bool.false_and, Bool.or_true, Bool.true_or, Bool.or_false, Bool.false_or, Int.cast_ofNat_Int, beq_self_eq_true, decide_true, decide_false, Int.neg_neg, Int.zero_add, Int.add_zero, line_lt, small_i, it_rng1, it_rng2, eq_self, for_nil, for_cons, forK_nx, forK_ct, forK_rt, lc_nil, lc_cons, lcK_some, lcK_none, rng_3, rng_4, run_whole, run_cell, run_near, vals_nil, vals_cons, vals_map, allI_nil, allI_cons, allI_map, allI_app, vals_app, run_divl, run_divt, run_ldivl, run_ldivt, run_euclid, ints_all, List.length_cons, List.length_nil, List.length_map, List.length_append, List.cons_append, List.nil_append, List.length_set, List.length_reverse, go_nx, go_ct, ret_ok, run_mirrored, app_ok, ix_q0, ix_q1, ix_q2, ix_q3, run_qsame, rng_0, rng_1, rng_2, turn_b, Q.vs_len, isi_q, len_q, seq_q, ne_q, eq_q, ne_q0, ne_li, eq_li, ix_v0, ix_v1, ix_v2, ix_m0, ix_m1, ix_m2, ix_n0, ix_n1, seq_v, seq_m, isi_v, isi_m, isi_n, len_v, len_m, len_n, list_v, bind_v, bind_m, bind_n, bind_q, add_vv, add_tv, set4_0, set4_1, set4_2, set4_3, set3_0, set3_1, set3_2, all_3, all_4, bools_3, bools_4, run_ldivq, run_divq, sum3, sum4, eq_nn, zip_v, tup_v, ne_rows, lcK_if, run_columns, run_back, run_lnumber, ne_nn, nonD_t3, nonD_tl, forK_ex, ne_vs, eq_vs, eq_sr, ne_sr, ix_s0, ix_s1, ix_s2, ix_t0, ix_t1, ix_t2, rx_a, rx_b, rx_c, rx_0, rx_d, rx_e, rx_1, rx_2, rx_f, run_ldiv2l, run_ldiv2t, ne_bb, eq_bb, zip_q, eq_q0', reduceIte, Nat.reduceAdd, Int.reduceBEq, Int.reduceToNat, Int.reduceMul, Int.reduceAdd, Int.reduceSub, Int.reduceLT, Int.reduceLE, Int.reduceFMod, Int.reduceFDiv, Int.reduceNeg])
theorem run_turnofdial {m : Int} {w : V3} {P : Nat} (hm0 : 0 < m) (hodd : m % 2 = 1) (mb : m.natAbs < 2 ^ P) (wo : w.ok P) (hP : P ≤ 420) (hg : g4 m w = 1) (hw : m ∣ w.dot w) : ∃ s : Q, d_turnofdial [.tuple [t3 w, .int m]] = .ok (.val (tn (Tn.of s))) ∧ DT m w s := by
  have sW : St (Q.sc 2 (pureQ w)) := by unfold St; simp only [Q.sc, pureQ]; omega
  have xo : (⟨2 * m, 0, 0, 0⟩ : Q).ok (P + 1) := by
    have := Nat.pow_succ (n := 2) (m := P); have : 0 < 2 ^ (P + 1) := Nat.two_pow_pos _
    exact ⟨by dsimp only; omega, by dsimp only; omega, by dsimp only; omega, by dsimp only; omega⟩
  have yo : (Q.sc 2 (pureQ w)).ok (P + 1) := by
    have := Nat.pow_succ (n := 2) (m := P); have : 0 < 2 ^ (P + 1) := Nat.two_pow_pos _
    obtain ⟨h1, h2, h3⟩ := wo
    exact ⟨by simp only [Q.sc, pureQ]; omega, by simp only [Q.sc, pureQ]; omega, by simp only [Q.sc, pureQ]; omega, by simp only [Q.sc, pureQ]; omega⟩
  obtain ⟨s, a, b, u, v, e1, hC, so, _⟩ := run_common (st_whole m) sW xo yo (by omega)
  have hd := DT.of hm0 hodd mb (by omega) hg hw hC.swap
  refine ⟨s, ?_, hd⟩
  have e2 := run_turn_of hd.ne so (by omega)
  have e3 := run_times wo wo (by omega)
  have e4 := run_div4 (m := m) (w := w)
  rw [hg] at e4
  have e5 : m.fmod 2 = 1 := by rw [fmod_pos (by decide)]; exact hodd
  have e6 : (w.dot w).fmod m = 0 := by rw [fmod_pos hm0]; exact Int.emod_eq_zero_of_dvd hw
  have m0 : m ≠ 0 := by omega
  have e7 : d_common [.tuple [.int (2 * m), .int 0, .int 0, .int 0], .tuple [.int 0, .int (2 * w.x), .int (2 * w.y), .int (2 * w.z)]] = .ok (.val (.tuple [q4 s, q4 a, q4 b, q4 u, q4 v])) := by rw [← e1]; rfl
  obtain ⟨w1, w2, w3⟩ := wo
  refine o_turnofdial ?_
  unfold b_turnofdial
  repeat (first | walk_at "ev" | rw [e5] | rw [show gcdL [m, w.x, w.y, w.z] = 1 from hg] | rw [e3] | rw [e6] | rw [e7] | rw [e2])
theorem run_listurn3 {T : Tn} {k : Nat} (h : IsT T) (b : T.ok k) (hk : k ≤ 200000) : d_listurn3 [tn T] = .ok (.val (.bool true)) := by
  have u := h.u
  have c0 : decide (T.n < 1) = false := decide_eq_false (by have := u.n; omega)
  have b' := b
  obtain ⟨hp, hq, hr, n1⟩ := b
  have g : gcdL [T.n, T.p.x, T.p.y, T.p.z, T.q.x, T.q.y, T.q.z, T.r.x, T.r.y, T.r.z] = 1 := by
    rw [← h.g]; exact gcdL_same fun x => by simp only [Tn.all, List.mem_cons, List.not_mem_nil, or_false]; constructor <;> rintro (h | h | h | h | h | h | h | h | h | h) <;> simp [h]
  have a1 := run_ldot hp hp (by omega)
  have a2 := run_ldot hp hq (by omega)
  have a3 := run_ldot hp hr (by omega)
  have a4 := run_ldot hq hp (by omega)
  have a5 := run_ldot hq hq (by omega)
  have a6 := run_ldot hq hr (by omega)
  have a7 := run_ldot hr hp (by omega)
  have a8 := run_ldot hr hq (by omega)
  have a9 := run_ldot hr hr (by omega)
  rw [u.pp] at a1
  rw [u.pq] at a2
  rw [u.pr] at a3
  rw [V3.dot_comm, u.pq] at a4
  rw [u.qq] at a5
  rw [u.qr] at a6
  rw [V3.dot_comm, u.pr] at a7
  rw [V3.dot_comm, u.qr] at a8
  rw [u.rr] at a9
  let c : V3 := ⟨T.p.y * T.q.z - T.p.z * T.q.y, T.p.z * T.q.x - T.p.x * T.q.z, T.p.x * T.q.y - T.p.y * T.q.x⟩
  have co : c.ok (k + k + 1) := ⟨bd_sub (bd_mul hp.2.1 hq.2.2) (bd_mul hp.2.2 hq.2.1) |> fun h => bd_mono h (by simp only [Nat.max_def]; split <;> omega), bd_sub (bd_mul hp.2.2 hq.1) (bd_mul hp.1 hq.2.2) |> fun h => bd_mono h (by simp only [Nat.max_def]; split <;> omega), bd_sub (bd_mul hp.1 hq.2.1) (bd_mul hp.2.1 hq.1) |> fun h => bd_mono h (by simp only [Nat.max_def]; split <;> omega)⟩
  have a10 := run_ldot co hr (by omega)
  have dt : c.dot T.r = T.n * T.n * T.n := by
    rw [← u.det]; simp only [V3.dot, c]; grind
  rw [dt] at a10
  have a11 : d_ldot [.tuple [.int (T.p.y * T.q.z - T.p.z * T.q.y), .int (T.p.z * T.q.x - T.p.x * T.q.z), .int (T.p.x * T.q.y - T.p.y * T.q.x)], t3 T.r] = .ok (.val (.int (T.n * T.n * T.n))) := a10
  obtain ⟨p1, p2, p3⟩ := hp
  obtain ⟨q1, q2, q3⟩ := hq
  obtain ⟨r1, r2, r3⟩ := hr
  refine o_listurn3 ?_
  unfold b_listurn3
  repeat (first | walk_at "ev" | rw [c0] | rw [a1] | rw [a2] | rw [a3] | rw [a4] | rw [a5] | rw [a6] | rw [a7] | rw [a8] | rw [a9] | rw [a11] | rw [g] | rw [Int.mul_one] | rw [Int.mul_zero])
end Lb
namespace K59
open PySem Tg
def b__law_dial : List S :=
   [.set 1 (.lst [.con (.int 0), .con (.int 0), .con (.int 0)]),
    .for (.nm 2) .rng [.bi .min [.bi .len [.var 0], .con (.int 63)]] [.put 1 (.bop .mod (.var 2) (.con (.int 3))) (.bop .add (.ix (.var 1) (.bop .mod (.var 2) (.con (.int 3)))) (.call 0 [.ix (.var 0) (.var 2), .bop .pow (.con (.int 10)) (.con (.int 40))]))],
    .ite (.cmp .eq (.var 1) (.lst [.con (.int 0), .con (.int 0), .con (.int 0)])) [.set 1 (.lst [.con (.int 1), .con (.int 2), .con (.int 2)])] [],
    .frz [1] (.asg (.nm 3) (.call 1 [.var 1, .var 1])),
    .ite (.cmp .eq (.bop .mod (.call 2 [.var 0, .con (.int 0)]) (.con (.int 2))) (.con (.int 1))) [.asg (.nm 3) (.call 3 [.lst [.var 3, .bop .mul (.con (.int 15015)) (.bop .add (.con (.int 1)) (.bop .mod (.call 2 [.var 0, .con (.int 1)]) (.bop .pow (.con (.int 10)) (.con (.int 30)))))]])] [],
    .whl (.cmp .eq (.bop .mod (.var 3) (.con (.int 2))) (.con (.int 0))) [.asg (.nm 3) (.bop .fdiv (.var 3) (.con (.int 2)))],
    .asg (.nm 4) (.call 3 [.bop .add (.var 1) (.lst [.var 3])]),
    .whl (.cmp .gt (.var 4) (.con (.int 1))) [.asg (.nm 3) (.bop .fdiv (.var 3) (.var 4)), .asg (.nm 4) (.call 3 [.bop .add (.var 1) (.lst [.var 3])])],
    .ret (.tup [.bi .tuple [.var 1], .var 3])]
noncomputable def d__law_dial : List D → M B := runF (phi [Lb.d_near, Lb.d_ldot, Lb.d_cell, Lb.d_ldiv2]) 1 5 b__law_dial
theorem o__law_dial {x0 : D} {r : M B} (h : endD (exL (phi [Lb.d_near, Lb.d_ldot, Lb.d_cell, Lb.d_ldiv2]) b__law_dial [some (.val x0), none, none, none, none]) = r) : d__law_dial [x0] = r := run_of rfl rfl h
def b_law : List S :=
   [.asg (.nm 1) (.call 0 [.var 0]),
    .asg (.tp [.nm 4, .nm 5]) (.var 1),
    .asg (.nm 2) (.call 1 [.var 1]),
    .ite (.or (.not (.call 2 [.var 2])) (.cmp .ne (.ix (.var 2) (.con (.int 1))) (.var 5))) [.ret (.con (.bool false))] [],
    .asg (.tp [.nm 6, .nm 7]) (.call 3 [.var 2]),
    .ite (.or (.cmp .ne (.var 7) (.var 5)) (.cmp .ne (.bop .mod (.bop .sub (.bop .mul (.ix (.var 4) (.con (.int 0))) (.ix (.var 6) (.con (.int 1)))) (.bop .mul (.ix (.var 4) (.con (.int 1))) (.ix (.var 6) (.con (.int 0))))) (.var 5)) (.con (.int 0)))) [.ret (.con (.bool false))] [],
    .ite (.or (.cmp .ne (.bop .mod (.bop .sub (.bop .mul (.ix (.var 4) (.con (.int 1))) (.ix (.var 6) (.con (.int 2)))) (.bop .mul (.ix (.var 4) (.con (.int 2))) (.ix (.var 6) (.con (.int 1))))) (.var 5)) (.con (.int 0))) (.cmp .ne (.bop .mod (.bop .sub (.bop .mul (.ix (.var 4) (.con (.int 2))) (.ix (.var 6) (.con (.int 0)))) (.bop .mul (.ix (.var 4) (.con (.int 0))) (.ix (.var 6) (.con (.int 2))))) (.var 5)) (.con (.int 0)))) [.ret (.con (.bool false))] [],
    .asg (.nm 3) (.call 4 [.var 2, .lst [.var 5]]),
    .ite (.or (.cmp .ne (.bi .len [.var 3]) (.con (.int 2))) (.or (.cmp .ne (.ix (.ix (.var 3) (.con (.int 0))) (.con (.int 1))) (.var 5)) (.cmp .ne (.ix (.ix (.var 3) (.con (.int 1))) (.con (.int 1))) (.con (.int 1))))) [.ret (.con (.bool false))] [],
    .ret (.cmp .isB (.call 5 [.ix (.var 3) (.con (.int 0)), .var 2]) (.con (.bool true)))]
noncomputable def d_law : List D → M B := runF (phi [d__law_dial, Lb.d_turnofdial, Lb.d_listurn3, Lb.d_dial_of, Lb.d_parted, Lb.d_share_alike]) 1 8 b_law
theorem o_law {x0 : D} {r : M B} (h : endD (exL (phi [d__law_dial, Lb.d_turnofdial, Lb.d_listurn3, Lb.d_dial_of, Lb.d_parted, Lb.d_share_alike]) b_law [some (.val x0), none, none, none, none, none, none, none]) = r) : d_law [x0] = r := run_of rfl rfl h
end K59
namespace K59
open PySem Tg Lb
local macro_rules | `(tactic| walk_at "bd") => `(tactic| first | assumption | exact near_b3 | exact near_b6 | exact near_b9 | exact near_b999 | exact near_b1000 | exact near_b12 | exact near_b15 | exact near_b20 | exact near_b30 | exact near_b60 | exact bd_lit rfl (by decide) | (refine' bd_add ?h1 ?h2; (case h1 => walk_at "bd"); (case h2 => walk_at "bd")) | (refine' bd_sub ?h1 ?h2; (case h1 => walk_at "bd"); (case h2 => walk_at "bd")) | (refine' bd_mul ?h1 ?h2; (case h1 => walk_at "bd"); (case h2 => walk_at "bd")) | (refine' bd_neg ?_; walk_at "bd"))
local macro_rules | `(tactic| walk_at "ok") => `(tactic| first | assumption | decide | (refine line_lt ?_; (first | omega | (simp only [List.length_map, List.length_set, List.length_append, List.length_cons, List.length_nil, List.length_reverse]; omega))) | (refine' mulOk_of ?h1 ?h2 ?h3; (case h1 => walk_at "bd"); (case h2 => walk_at "bd"); (case h3 => first | decide | omega | (simp only [Nat.max_def]; first | decide | omega))) | (refine divOk_of ?_ ?_ <;> first | assumption | decide +kernel | omega) | omega | (simp -implicitDefEqProofs only [allI_nil, allI_cons, allI_map, allI_app, Bool.and_self, Bool.and_true]; done))
theorem pow10_40 : bopD .pow (.int 10) (.int 40) = .ok (.val (.int (10 ^ 40))) := by rw [pow_ii, if_pos (by decide)]; rfl
def slot3 (ρ : En) : Nat := match ρ[3]? with
  | some (some (Tg.B.val (PyData.int m))) => m.natAbs
  | _ => 0
local macro_rules | `(tactic| walk_at "ev") => `(tactic| simp -implicitDefEqProofs (disch := walk_at "ok") only [exL_nil, exL_cons, next_nx, next_rt, next_ct, next_ex, S_asg, S_set, S_put, S_app, S_ite, S_for, S_whl, S_ret, S_cont, S_pass, S_frz, S_raise, put_own, putK_i, app_own, frz_nil, frz_cons, frzK_own, frzK_val, E_var, E_con, E_glob, E_tup, E_lst, E_rep, E_bop, E_neg, E_not, E_and, E_or, E_cmp, E_ix, E_sl, E_bi, E_isi, E_call, E_lc, lcO_ok, L_nil, L_cons, Bs_nil, Bs_cons, bor_var, bor_con, bor_glob, bor_tup, bor_lst, bor_rep, bor_bop, bor_neg, bor_not, bor_and, bor_or, bor_cmp, bor_ix, bor_sl, bor_sl3, bor_inr, bor_call0, bor_bi, bor_isi, bor_call, bor_lc, lookE_val, lookB_val, lookB_own, valM_ok, valM_stuck, valM_ex, d_val, d_own, negD_i, notD_b, andD_t, andD_f, orD_t, orD_f, andD_b, orD_b, add_ii, sub_ii, mul_ii', fdiv_ii', mod_ii', pow10_9, pow10_10, pow10_12, pow10_15, pow10_20, pow10_30, pow10_60, pow10_120, add_ll, add_tt, lt_ii, le_ii, gt_ii, ge_ii, eq_ii, ne_ii, isN_d, notN_d, isB_bb, notB_bb, ix_l, ix_t, ixO_some, at_0, at_1, at_2, at_3, iteD_t, iteD_f, iteD_b, ret_var, retV_b, end_rt, end_nx, end_ex, ret_con, ret_glob, ret_tup, ret_lst, ret_rep, ret_bop, ret_neg, ret_not, ret_and, ret_or, ret_cmp, ret_ix, ret_sl, ret_sl3, ret_inr, ret_call0, safe_ok, inr_t, inr_f, S_tri, tri_ok, tri_ex, su_nil, su_cons, suD_is, suD_con, suD_two, suD_lst, suD_cat, suCat_l, E_sl3, E_inr, E_call0, mul_ti, List.map_cons, List.map_nil, ret_bi, ret_isi, ret_call, ret_lc, isi_ii, isi_ib, isi_it, isi_il, isi_in, isi_bi, isi_bb, isi_tt, isi_tl, isi_ti, isi_tn, isi_ll, isi_lt, bi_abs, bi_len_l, bi_len_t, bi_int_i, bi_int_b, bi_list_l, bi_list_t, bi_tuple_l, bi_tuple_t, bi_sum, bi_all, sumO_some, allO_some, bi_min2, bi_max2, phi_0, phi_1, phi_2, phi_s, bindT_nm, bindT_tp, bindT_tl, bindTs_nil, bindTs_cons, it_seq, it_zip_t, it_zip_l, it_rev, itL, itT, turn_0, turn_t, turn_f, wipe_nil, wipe_cons, forF_eq, whlC_eq, whlF_eq, lcF_eq, bind_ok, bind_stuck, bind_ex, List.set_cons_zero, List.set_cons_succ, List.getElem?_cons_zero, List.getElem?_cons_succ, if_true, if_false, Bool.false_eq_true, part_0, part_1, sl_l, sl_t, nonD, Bool.not_true, Bool.not_false, Bool.and_true, Bool.true_and, Bool.and_false, Bool.false_and, Bool.or_true, Bool.true_or, Bool.or_false, Bool.false_or, Int.cast_ofNat_Int, beq_self_eq_true, decide_true, decide_false, Int.neg_neg, Int.zero_add, Int.add_zero, line_lt, small_i, it_rng1, it_rng2, eq_self, for_nil, for_cons, forK_nx, forK_ct, forK_rt, lc_nil, lc_cons, lcK_some, lcK_none, rng_3, rng_4, run_whole, run_cell, run_near, vals_nil, vals_cons, vals_map, allI_nil, allI_cons, allI_map, allI_app, vals_app, run_divl, run_divt, run_ldivl, run_ldivt, run_euclid, ints_all, List.length_cons, List.length_nil, List.length_map, List.length_append, List.cons_append, List.nil_append, List.length_set, List.length_reverse, go_nx, go_ct, ret_ok, run_mirrored, app_ok, ix_q0, ix_q1, ix_q2, ix_q3, run_qsame, rng_0, rng_1, rng_2, turn_b, Q.vs_len, isi_q, len_q, seq_q, ne_q, eq_q, ne_q0, ne_li, eq_li, ix_v0, ix_v1, ix_v2, ix_m0, ix_m1, ix_m2, ix_n0, ix_n1, seq_v, seq_m, isi_v, isi_m, isi_n, len_v, len_m, len_n, list_v, bind_v, bind_m, bind_n, bind_q, add_vv, add_tv, set4_0, set4_1, set4_2, set4_3, set3_0, set3_1, set3_2, all_3, all_4, bools_3, bools_4, run_ldivq, run_divq, sum3, sum4, eq_nn, zip_v, tup_v, ne_rows, lcK_if, run_columns, run_back, run_lnumber, ne_nn, nonD_t3, nonD_tl, forK_ex, ne_vs, eq_vs, eq_sr, ne_sr, ix_s0, ix_s1, ix_s2, ix_t0, ix_t1, ix_t2, rx_a, rx_b, rx_c, rx_0, rx_d, rx_e, rx_1, rx_2, rx_f, run_ldiv2l, run_ldiv2t, ne_bb, eq_bb, zip_q, eq_q0', reduceIte, Nat.reduceAdd, Int.reduceBEq, Int.reduceToNat, Int.reduceMul, Int.reduceAdd, Int.reduceSub, Int.reduceLT, Int.reduceLE, Int.reduceFMod, Int.reduceFDiv, Int.reduceNeg])
theorem run_ldot_l {v w : V3} {k m : Nat} (h : v.ok k) (b : w.ok m) (hl : k + m ≤ 900000) : d_ldot [.list [.int v.x, .int v.y, .int v.z], .list [.int w.x, .int w.y, .int w.z]] = .ok (.val (.int (v.dot w))) := by
  obtain ⟨h1, h2, h3⟩ := h
  obtain ⟨b1, b2, b3⟩ := b
  refine o_ldot ?_
  unfold b_ldot
  repeat walk_at "ev"
  rfl
theorem up {x : Int} {n m : Nat} (h : n ≤ m) (hx : x.natAbs ≤ n * 10 ^ 40) : x.natAbs ≤ m * 10 ^ 40 := Nat.le_trans hx (Nat.mul_le_mul_right _ h)
theorem upd {x y : Int} {n m : Nat} (h : n + 1 ≤ m) (hx : x.natAbs ≤ n * 10 ^ 40) (hy : y.natAbs ≤ 10 ^ 40) : (x + y).natAbs ≤ m * 10 ^ 40 := by
  refine Nat.le_trans ?_ (Nat.mul_le_mul_right _ h)
  rw [Nat.add_mul, Nat.one_mul]
  omega
def Dl (w : V3) (m : Int) : Prop := 0 < m ∧ m ∣ w.dot w ∧ m.natAbs < 2 ^ 282
theorem Dl.of {w : V3} (hw : w ≠ ⟨0, 0, 0⟩) (wo : w.ok 140) : Dl w (w.dot w) := by
  have a := sq_nn w.x; have b := sq_nn w.y; have c := sq_nn w.z
  have hn : w.dot w ≠ 0 := fun h => hw (by
    simp only [V3.dot] at h
    have h1 : w.x * w.x = 0 := by omega
    have h2 : w.y * w.y = 0 := by omega
    have h3 : w.z * w.z = 0 := by omega
    cases w
    simp only [V3.mk.injEq]
    simp only [Int.mul_eq_zero, or_self] at h1 h2 h3
    exact ⟨h1, h2, h3⟩)
  have := dot_bd wo wo
  refine ⟨by simp only [V3.dot] at hn ⊢; omega, Int.dvd_refl _, this⟩
theorem Dl.less {w : V3} {m n : Int} (h : Dl w m) (hn : 0 < n) (hd : n ∣ m) : Dl w n := by
  refine ⟨hn, Int.dvd_trans hd h.2.1, ?_⟩
  have := Int.le_of_dvd h.1 hd
  have := h.2.2
  have := h.1
  omega
theorem run_dial {ns : List Int} (h : ns.length ≤ 63) : ∃ (w : V3) (m : Int), d__law_dial [.list (ns.map PyData.int)] = .ok (.val (.tuple [t3 w, .int m])) ∧ w.ok 140 ∧ Dl w m ∧ m % 2 = 1 ∧ g4 m w = 1 := by
  suffices R : Ret (fun b => ∃ (w : V3) (m : Int), b = .val (.tuple [t3 w, .int m]) ∧ w.ok 140 ∧ Dl w m ∧ m % 2 = 1 ∧ g4 m w = 1) (endD (exL (phi [Lb.d_near, Lb.d_ldot, Lb.d_cell, Lb.d_ldiv2]) b__law_dial [some (.val (.list (ns.map PyData.int))), none, none, none, none])) by
    obtain ⟨b, e, w, m, rfl, h⟩ := R
    exact ⟨w, m, o__law_dial e, h⟩
  unfold b__law_dial
  have hmn : 0 ≤ (if (63 : Int) < ns.length then 63 else (ns.length : Int)) ∧ (if (63 : Int) < ns.length then 63 else (ns.length : Int)) ≤ 63 ∧ (if (63 : Int) < ns.length then 63 else (ns.length : Int)) ≤ ns.length := by split <;> omega
  generalize hM : (if (63 : Int) < ns.length then 63 else (ns.length : Int)) = MM at hmn
  have sm : smallI MM = true := small_nat hmn.1 (by omega)
  repeat (first | walk_at "ev" | rw [hM] | rw [sm])
  refine for_ret (fun i ρ => ∃ (x y z : Int) (x2 x3 x4 : Option Tg.B), ρ = [some (.val (.list (ns.map PyData.int))), some (.own [.int x, .int y, .int z]), x2, x3, x4] ∧ i ≤ 63 ∧ x.natAbs ≤ (i + 2) / 3 * 10 ^ 40 ∧ y.natAbs ≤ (i + 1) / 3 * 10 ^ 40 ∧ z.natAbs ≤ i / 3 * 10 ^ 40) ⟨0, 0, 0, none, none, none, rfl, by omega, by decide, by decide, by decide⟩ (fun i d0 ρ hd ⟨x, y, z, x2, x3, x4, e, hi, hx, hy, hz⟩ => ?_) (fun ρ1 ⟨x, y, z, x2, x3, x4, e, hi, hx, hy, hz⟩ => ?_)
  · subst e
    obtain ⟨hiM, rfl⟩ := range_get hd
    have em : ((i : Nat) : Int).fmod 3 = ((i : Nat) : Int) % 3 := fmod_pos (by decide)
    have hk : ((i : Nat) : Int) % 3 = 0 ∨ ((i : Nat) : Int) % 3 = 1 ∨ ((i : Nat) : Int) % 3 = 2 := by omega
    have c0 := cell_at (ns := ns) (k := (i : Nat)) (by omega) (by omega)
    have nr := run_near (c := cellI ns (i : Nat)) (m := 10 ^ 40) (by decide) (by decide)
    have nb := near_le (c := cellI ns (i : Nat)) (m := 10 ^ 40) (by decide)
    have nb' : (near (cellI ns (i : Nat)) (10 ^ 40)).natAbs ≤ 10 ^ 40 := nb
    rcases hk with hk | hk | hk
    · repeat (first | walk_at "ev" | rw [em, hk] | rw [c0] | rw [pow10_40] | rw [nr])
      exact ⟨_, y, z, _, _, _, rfl, by omega, upd (by omega) hx nb', up (by omega) hy, up (by omega) hz⟩
    · repeat (first | walk_at "ev" | rw [em, hk] | rw [c0] | rw [pow10_40] | rw [nr])
      exact ⟨x, _, z, _, _, _, rfl, by omega, up (by omega) hx, upd (by omega) hy nb', up (by omega) hz⟩
    · repeat (first | walk_at "ev" | rw [em, hk] | rw [c0] | rw [pow10_40] | rw [nr])
      exact ⟨x, y, _, _, _, _, rfl, by omega, up (by omega) hx, up (by omega) hy, upd (by omega) hz nb'⟩
  · subst e
    have key : ∃ w : V3, w ≠ ⟨0, 0, 0⟩ ∧ w.ok 140 ∧ ∀ (X A B C : Option Tg.B), (if decide ([x, y, z] = [0, 0, 0]) = true then (.ok (.nx [X, some (.own [.int 1, .int 2, .int 2]), A, B, C]) : M Out) else .ok (.nx [X, some (.own [.int x, .int y, .int z]), A, B, C])) = .ok (.nx [X, some (.own [.int w.x, .int w.y, .int w.z]), A, B, C]) := by
      have t : ∀ {x : Int} {n : Nat}, n ≤ 21 → x.natAbs ≤ n * 10 ^ 40 → x.natAbs < 2 ^ 140 := fun {x n} hn hx => by
        have : n * 10 ^ 40 ≤ 21 * 10 ^ 40 := Nat.mul_le_mul_right _ hn
        omega
      by_cases hz0 : [x, y, z] = [0, 0, 0]
      · exact ⟨⟨1, 2, 2⟩, by simp, ⟨by decide, by decide, by decide⟩, fun _ _ _ _ => by rw [decide_eq_true hz0]; rfl⟩
      · exact ⟨⟨x, y, z⟩, fun e => hz0 (by simp only [V3.mk.injEq] at e; simp [e]), ⟨t (by omega) hx, t (by omega) hy, t (by omega) hz⟩, fun _ _ _ _ => by rw [decide_eq_false hz0]; rfl⟩
    obtain ⟨w, hw, wo, ke⟩ := key
    have e0 : cmpD .eq (.list [.int x, .int y, .int z]) (.list [.int 0, .int 0, .int 0]) = .ok (.val (.bool (decide ([x, y, z] = [0, 0, 0])))) := eq_li (xs := [x, y, z]) (ys := [0, 0, 0])
    have e1 := run_ldot_l wo wo (by decide)
    have D0 := Dl.of hw wo
    generalize w.dot w = m0 at e1 D0
    have f2 := fmod_pos (i := cellI ns 0) (j := 2) (by decide)
    have tail : ∀ (m : Int) (x2 x4 : Option Tg.B), Dl w m → Ret (fun b => ∃ (w : V3) (m : Int), b = .val (.tuple [t3 w, .int m]) ∧ w.ok 140 ∧ Dl w m ∧ m % 2 = 1 ∧ g4 m w = 1) (endD (exL (phi [Lb.d_near, Lb.d_ldot, Lb.d_cell, Lb.d_ldiv2]) [.whl (.cmp .eq (.bop .mod (.var 3) (.con (.int 2))) (.con (.int 0))) [.asg (.nm 3) (.bop .fdiv (.var 3) (.con (.int 2)))],
    .asg (.nm 4) (.call 3 [.bop .add (.var 1) (.lst [.var 3])]),
    .whl (.cmp .gt (.var 4) (.con (.int 1))) [.asg (.nm 3) (.bop .fdiv (.var 3) (.var 4)), .asg (.nm 4) (.call 3 [.bop .add (.var 1) (.lst [.var 3])])],
    .ret (.tup [.bi .tuple [.var 1], .var 3])] [some (.val (.list (ns.map PyData.int))), some (.val (.list [.int w.x, .int w.y, .int w.z])), x2, some (.val (.int m)), x4])) := fun m x2 x4 hD => by
      have ge : ∀ m : Int, gcdL [w.x, w.y, w.z, m] = g4 m w := fun m => gcdL_same fun x => by simp; constructor <;> rintro (h | h | h | h) <;> simp [h]
      repeat walk_at "ev"
      refine whl_in (C := fun z => Ret _ (endD (nextD _ _ z))) (fun ρ => ∃ (m : Int) (x2 x4 : Option Tg.B), ρ = [some (.val (.list (ns.map PyData.int))), some (.val (.list [.int w.x, .int w.y, .int w.z])), x2, some (.val (.int m)), x4] ∧ Dl w m) slot3 (fun ρ => ∃ (m : Int) (x2 x4 : Option Tg.B), ρ = [some (.val (.list (ns.map PyData.int))), some (.val (.list [.int w.x, .int w.y, .int w.z])), x2, some (.val (.int m)), x4] ∧ Dl w m ∧ m % 2 = 1) ⟨_, _, _, rfl, hD⟩ (fun ρ ⟨m, x2, x4, e, hD⟩ => ?_) (fun ρ1 ⟨m, x2, x4, e, hD, ho⟩ => ?_)
      · subst e
        have f := fmod_pos (i := m) (j := 2) (by decide)
        have fd : m.fdiv 2 = m / 2 := fdiv_pos (by decide)
        have mb := hD.2.2
        rcases (show m % 2 = 0 ∨ m % 2 = 1 by omega) with h | h
        · right
          rw [h] at f
          have hp : 0 < m / 2 := by have := hD.1; omega
          refine ⟨by repeat (first | walk_at "ev" | rw [f]), _, by (repeat (first | walk_at "ev" | rw [fd])), ⟨_, _, _, rfl, hD.less hp ⟨2, by omega⟩⟩, ?_⟩
          show (m / 2).natAbs < m.natAbs
          have := hD.1
          omega
        · left
          rw [h] at f
          exact ⟨by repeat (first | walk_at "ev" | rw [f]), _, _, _, rfl, hD, h⟩
      · subst e
        repeat (first | walk_at "ev" | rw [ge])
        refine whl_in (C := fun z => Ret _ (endD (nextD _ _ z))) (fun ρ => ∃ (m : Int) (x2 : Option Tg.B), ρ = [some (.val (.list (ns.map PyData.int))), some (.val (.list [.int w.x, .int w.y, .int w.z])), x2, some (.val (.int m)), some (.val (.int (g4 m w : Nat)))] ∧ Dl w m ∧ m % 2 = 1) slot3 (fun ρ => ∃ (m : Int) (x2 : Option Tg.B), ρ = [some (.val (.list (ns.map PyData.int))), some (.val (.list [.int w.x, .int w.y, .int w.z])), x2, some (.val (.int m)), some (.val (.int (g4 m w : Nat)))] ∧ Dl w m ∧ m % 2 = 1 ∧ g4 m w = 1) ⟨_, _, rfl, hD, ho⟩ (fun ρ ⟨m, x2, e, hD, ho⟩ => ?_) (fun ρ1 ⟨m, x2, e, hD, ho, hg⟩ => ?_)
        · subst e
          have gp := g4_pos hD.1 (w := w)
          have gd := g4_m (m := m) (w := w)
          rcases (show (1 : Int) < (g4 m w : Nat) ∨ g4 m w = 1 by omega) with h | h
          · right
            have gq := Int.mul_ediv_cancel' gd
            have fd : m.fdiv ((g4 m w : Nat) : Int) = m / ((g4 m w : Nat) : Int) := fdiv_pos (by omega)
            have mb := hD.2.2
            have m0 := hD.1
            have gb : ((g4 m w : Nat) : Int).natAbs < 2 ^ 282 := by
              have := Int.le_of_dvd m0 gd
              omega
            have gz : ((g4 m w : Nat) : Int) ≠ 0 := by omega
            refine ⟨by repeat (first | walk_at "ev" | rw [decide_eq_true h]), _, by (repeat (first | walk_at "ev" | rw [fd] | rw [ge])), ⟨_, _, rfl, ?_, ?_⟩, ?_⟩
            · refine hD.less ?_ ⟨((g4 m w : Nat) : Int), by rw [Int.mul_comm]; exact gq.symm⟩
              rcases Int.lt_or_le 0 (m / ((g4 m w : Nat) : Int)) with h1 | h1
              · exact h1
              · have := Int.mul_nonpos_of_nonneg_of_nonpos (show (0 : Int) ≤ ((g4 m w : Nat) : Int) by omega) h1
                omega
            · generalize m / ((g4 m w : Nat) : Int) = q at gq
              rcases (show q % 2 = 0 ∨ q % 2 = 1 by omega) with h2 | h2
              · rw [← gq, Int.mul_emod, h2] at ho; simp at ho
              · exact h2
            · show (m / ((g4 m w : Nat) : Int)).natAbs < m.natAbs
              have := Int.ediv_lt_self_of_pos_of_ne_one m0 (show ((g4 m w : Nat) : Int) ≠ 1 by omega)
              have : 0 ≤ m / ((g4 m w : Nat) : Int) := Int.ediv_nonneg (by omega) (by omega)
              omega
          · left
            refine ⟨?_, _, _, rfl, hD, ho, h⟩
            have : decide ((1 : Int) < ((g4 m w : Nat) : Int)) = false := decide_eq_false (by omega)
            repeat (first | walk_at "ev" | rw [this])
        · subst e
          repeat (first | walk_at "ev")
          exact ⟨w, m, rfl, wo, hD, ho, hg⟩
    rcases (show cellI ns 0 % 2 = 0 ∨ cellI ns 0 % 2 = 1 by omega) with hc | hc
    · rw [hc] at f2
      have F := tail m0 x2 x4 D0
      generalize hr : (S.whl _ _ :: _ : List S) = RR at F ⊢
      repeat (first | walk_at "ev" | rw [e0] | rw [ke] | rw [e1] | rw [f2])
      exact F
    · rw [hc] at f2
      have fr := fmod_pos (i := cellI ns 1) (j := 10 ^ 30) (by decide)
      have r0 : 0 ≤ cellI ns 1 % 10 ^ 30 := Int.emod_nonneg _ (by decide)
      have r1 : cellI ns 1 % 10 ^ 30 < 10 ^ 30 := Int.emod_lt_of_pos _ (by decide)
      generalize cellI ns 1 % 10 ^ 30 = r at fr r0 r1
      have rb : r.natAbs < 2 ^ 100 := by omega
      have y1 : (1 + r).natAbs < 2 ^ 101 := by omega
      have y2 : (15015 : Int).natAbs < 2 ^ 14 := by decide
      have gp : 0 < gcdL [m0, 15015 * (1 + r)] := gcdL_pos (x := m0) (by simp) (by have := D0.1; omega)
      have F := tail (gcdL [m0, 15015 * (1 + r)] : Nat) x2 x4 (D0.less (by omega) (gcdL_dvd (by simp)))
      generalize hr : (S.whl _ _ :: _ : List S) = RR at F ⊢
      repeat (first | walk_at "ev" | rw [e0] | rw [ke] | rw [e1] | rw [f2] | rw [fr])
      exact F
theorem run_share_alike {t u p : Q} {k j : Nat} (t0 : t ≠ Q.zero) (u0 : u ≠ Q.zero) (p0 : p ≠ Q.zero) (to : t.ok k) (po : p.ok j) (hl : 2 * k + 4 + (2 * j + 4) ≤ 8990) (e : Tn.of (t.mul u) = Tn.of p) : d_share_alike [tn (Tn.of t), tn (Tn.of p)] = .ok (.val (.bool ((Tn.of u).n == 1))) := by
  have tc : t.conj ≠ Q.zero := fun e => t0 (by rw [← Tn.of_conj_conj t, e]; rfl)
  have tr := Tn.of_tr t0
  have hn := Tn.of_n tc
  rw [← tr] at hn
  have e1 := run_after (S := (Tn.of t).tr) (T := Tn.of p) hn (Tn.of_n p0) (Tn.ok_tr (Tn.ok_of t0 to)) (Tn.ok_of p0 po) hl
  have e2 : ((Tn.of t).tr.mul (Tn.of p)).low = Tn.of u := by
    rw [tr, ← e, Tn.of_mul tc (Q.mul_ne t0 u0), ← Q.mul_assoc]
    have : t.conj.mul t = ⟨t.size, 0, 0, 0⟩ := by simp only [Q.mul, Q.conj, Q.size, Q.mk.injEq]; refine ⟨by grind, by grind, by grind, by grind⟩
    rw [this]
    have e3 : (⟨t.size, 0, 0, 0⟩ : Q).mul u = Q.sc t.size u := by simp only [Q.mul, Q.sc, Q.mk.injEq]; refine ⟨by grind, by grind, by grind, by grind⟩
    rw [e3]
    have := Q.size_pos t0
    exact Tn.of_sc u0 (by omega)
  rw [e2] at e1
  refine o_share_alike ?_
  unfold b_share_alike
  repeat (first | walk_at "ev" | rw [run_back] | rw [e1])
theorem law_true (ns : List Int) (h : ns.length ≤ 63) : d_law [.list (ns.map PyData.int)] = .ok (.val (.bool true)) := by
  refine o_law ?_
  unfold b_law
  obtain ⟨w, m, e1, wo, hD, ho, hg⟩ := run_dial h
  have wo' : w.ok 282 := ⟨bd_mono wo.1 (by decide), bd_mono wo.2.1 (by decide), bd_mono wo.2.2 (by decide)⟩
  obtain ⟨s, e2, D⟩ := run_turnofdial hD.1 ho hD.2.2 wo' (by decide) hg hD.2.1
  have To : (Tn.of s).ok 282 := (IsT.of D.ne).u.ok (by rw [D.n]; exact hD.2.2)
  have e3 := run_listurn3 (IsT.of D.ne) To (by decide)
  obtain ⟨w', e4, hw', wx, wy, wz⟩ := run_dial_of D.ne To (by decide)
  have so : s.ok 142 := wt_ok D.st (m := 141) (by
    rw [D.hwt]
    have h1 := pow_nat (2 * 141)
    have h2 := hD.2.2
    omega)
  obtain ⟨p, sc, hp, g1, _, hT, pb⟩ := run_quad_turn D.ne so (by decide)
  have hpz := hp.ne
  have sp := Q.bd_size pb
  have spos := Q.size_pos hpz
  have spp : p.size < 2 ^ (2 * 144) := by
    have h2 := pow_nat (2 * 144)
    have h3 := Nat.pow_le_pow_right (n := 2) (by decide) (show 142 + 142 + 3 ≤ 2 * 144 by decide)
    omega
  have both : ∀ v, m ∣ w.dot v → m ∣ w'.dot v := fun v hv => by
    have := (hw'.sh v).mpr ((D.sh v).mpr hv)
    rw [D.n] at this
    exact this
  have p1 := both ⟨w.y, -w.x, 0⟩ ⟨0, by simp only [V3.dot]; grind⟩
  have p2 := both ⟨0, w.z, -w.y⟩ ⟨0, by simp only [V3.dot]; grind⟩
  have p3 := both ⟨-w.z, 0, w.x⟩ ⟨0, by simp only [V3.dot]; grind⟩
  have m0 := hD.1
  have c1 : (w.x * w'.y - w.y * w'.x).fmod m = 0 := by
    rw [fmod_pos m0]; refine Int.emod_eq_zero_of_dvd ?_
    rw [show w.x * w'.y - w.y * w'.x = -(w'.dot ⟨w.y, -w.x, 0⟩) by simp only [V3.dot]; grind]; exact Int.dvd_neg.mpr p1
  have c2 : (w.y * w'.z - w.z * w'.y).fmod m = 0 := by
    rw [fmod_pos m0]; refine Int.emod_eq_zero_of_dvd ?_
    rw [show w.y * w'.z - w.z * w'.y = -(w'.dot ⟨0, w.z, -w.y⟩) by simp only [V3.dot]; grind]; exact Int.dvd_neg.mpr p2
  have c3 : (w.z * w'.x - w.x * w'.z).fmod m = 0 := by
    rw [fmod_pos m0]; refine Int.emod_eq_zero_of_dvd ?_
    rw [show w.z * w'.x - w.x * w'.z = -(w'.dot ⟨-w.z, 0, w.x⟩) by simp only [V3.dot]; grind]; exact Int.dvd_neg.mpr p3
  have pn : (Tn.of p).n = m := by rw [← hT]; exact D.n
  obtain ⟨ts, u, e5, t1, t2, t3', u0, uo, un, tm⟩ := run_parted (p := p) (ms := [m]) (m := 144) (by decide) (by decide) hpz hp.g spp (by rw [← hT]; exact g1) (by simp [m0]) (by rw [pn]; simp [prodI]) (by simp)
  match ts, t1 with
  | [t], _ =>
    obtain ⟨tz, tok⟩ := t3' t (by simp)
    have tn1 := t2 0 t _ rfl rfl
    have tm' : Tn.of (t.mul u) = Tn.of p := by
      have : (Q.prod [t]).mul u = t.mul u := by rw [Q.prod_cons, Q.prod_nil, Q.mul_one]
      rw [← this]; exact tm
    have e6 := run_share_alike tz u0 hpz tok pb (by decide) tm'
    rw [un] at e6
    have e5' : d_parted [tn (Tn.of s), .list [.int m]] = .ok (.own [tn (Tn.of t), tn (Tn.of u)]) := by rw [hT]; exact e5
    rw [← hT] at e6
    have dn : (Tn.of s).n = m := D.n
    rw [dn] at e4
    have l2 : biD .len [.list [tn (Tn.of t), tn (Tn.of u)]] = .ok (.val (.int 2)) := rfl
    have r1 : (!((Tn.of t).n == m)) = false := by simpa using tn1
    have r2 : (!((Tn.of u).n == 1)) = false := by simpa using un
    have i0 : ixO (L2.atI [tn (Tn.of t), tn (Tn.of u)] 0) = .ok (.val (tn (Tn.of t))) := by rw [at_0]; rfl
    have i11 : ixO (L2.atI [tn (Tn.of t), tn (Tn.of u)] 1) = .ok (.val (tn (Tn.of u))) := by rw [at_1]; rfl
    have mb := hD.2.2
    have a1 : w'.x.natAbs < 2 ^ 282 := by omega
    have a2 : w'.y.natAbs < 2 ^ 282 := by omega
    have a3 : w'.z.natAbs < 2 ^ 282 := by omega
    obtain ⟨b1, b2, b3⟩ := wo
    have mz : m ≠ 0 := by omega
    clear wx wy wz p1 p2 p3 sp spos spp both
    repeat (first | walk_at "ev" | rw [e1] | rw [e2] | rw [e3] | rw [dn] | rw [e4] | rw [c1] | rw [c2] | rw [c3] | rw [e5'] | rw [i0] | rw [i11] | rw [r1] | rw [r2] | rw [e6])
end K59
namespace K59
open PySem PySem.Spec PyProof.Rows L2 Tg
def topS (i : Nat) : Stmt := PySem.Challenge.pw_turngrid_k59_whole_dials_there_and_back.main.body.getD i (.Pass ⟨0, 0, 0, 0⟩)
abbrev s_divisor : Stmt := topS 7
def T_divisor : Tb := ⟨["numbers", "found", "number", "other"], [], [], ["NoQuad", "NoStone", "NoQuad", "NoDial", "NoParts"], [], []⟩
theorem sc_divisor : FnScope T_divisor.N ["numbers"] (defScope s_divisor) := ⟨rfl, rfl, rfl, by decide +kernel, rfl, by decide +kernel, by decide +kernel⟩
theorem ck_divisor : ckB T_divisor ⟨defScope s_divisor, fun _ => true⟩ Lb.b_divisor (defBody s_divisor) = true := by decide +kernel
abbrev s_product : Stmt := topS 9
def T_product : Tb := ⟨["one", "other", "first", "second", "third", "a", "b", "c", "d", "e", "f", "g", "h"], [], [], ["NoQuad", "NoStone", "NoQuad", "NoDial", "NoParts"], [], []⟩
theorem sc_product : FnScope T_product.N ["one", "other"] (defScope s_product) := ⟨rfl, rfl, rfl, by decide +kernel, rfl, by decide +kernel, by decide +kernel⟩
theorem ck_product : ckB T_product ⟨defScope s_product, fun _ => true⟩ Lb.b_product (defBody s_product) = true := by decide +kernel
abbrev s_mirrored : Stmt := topS 10
def T_mirrored : Tb := ⟨["quad"], [], [], ["NoQuad", "NoStone", "NoQuad", "NoDial", "NoParts"], [], []⟩
theorem sc_mirrored : FnScope T_mirrored.N ["quad"] (defScope s_mirrored) := ⟨rfl, rfl, rfl, by decide +kernel, rfl, by decide +kernel, by decide +kernel⟩
theorem ck_mirrored : ckB T_mirrored ⟨defScope s_mirrored, fun _ => true⟩ Lb.b_mirrored (defBody s_mirrored) = true := by decide +kernel
abbrev s_size : Stmt := topS 11
def T_size : Tb := ⟨["quad", "number"], [], [], ["NoQuad", "NoStone", "NoQuad", "NoDial", "NoParts"], [], []⟩
theorem sc_size : FnScope T_size.N ["quad"] (defScope s_size) := ⟨rfl, rfl, rfl, by decide +kernel, rfl, by decide +kernel, by decide +kernel⟩
theorem ck_size : ckB T_size ⟨defScope s_size, fun _ => true⟩ Lb.b_size (defBody s_size) = true := by decide +kernel
abbrev s_plain : Stmt := topS 12
def T_plain : Tb := ⟨["quad", "common", "lead", "number"], ["divisor"], [], ["NoQuad", "NoStone", "NoQuad", "NoDial", "NoParts"], [], []⟩
theorem sc_plain : FnScope T_plain.N ["quad"] (defScope s_plain) := ⟨rfl, rfl, rfl, by decide +kernel, rfl, by decide +kernel, by decide +kernel⟩
theorem ck_plain : ckB T_plain ⟨defScope s_plain, fun _ => true⟩ Lb.b_plain (defBody s_plain) = true := by decide +kernel
abbrev s_stone_product : Stmt := topS 16
def T_stone_product : Tb := ⟨["one", "other", "number"], ["product"], [], ["NoQuad", "NoStone", "NoQuad", "NoDial", "NoParts"], [], []⟩
theorem sc_stone_product : FnScope T_stone_product.N ["one", "other"] (defScope s_stone_product) := ⟨rfl, rfl, rfl, by decide +kernel, rfl, by decide +kernel, by decide +kernel⟩
theorem ck_stone_product : ckB T_stone_product ⟨defScope s_stone_product, fun _ => true⟩ Lb.b_stone_product (defBody s_stone_product) = true := by decide +kernel
abbrev s_weight : Stmt := topS 17
def T_weight : Tb := ⟨["stone"], ["size"], [], ["NoQuad", "NoStone", "NoQuad", "NoDial", "NoParts"], [], []⟩
theorem sc_weight : FnScope T_weight.N ["stone"] (defScope s_weight) := ⟨rfl, rfl, rfl, by decide +kernel, rfl, by decide +kernel, by decide +kernel⟩
theorem ck_weight : ckB T_weight ⟨defScope s_weight, fun _ => true⟩ Lb.b_weight (defBody s_weight) = true := by decide +kernel
abbrev s_stone_less : Stmt := topS 18
def T_stone_less : Tb := ⟨["one", "other", "a", "b"], [], [], ["NoQuad", "NoStone", "NoQuad", "NoDial", "NoParts"], [], []⟩
theorem sc_stone_less : FnScope T_stone_less.N ["one", "other"] (defScope s_stone_less) := ⟨rfl, rfl, rfl, by decide +kernel, rfl, by decide +kernel, by decide +kernel⟩
theorem ck_stone_less : ckB T_stone_less ⟨defScope s_stone_less, fun _ => true⟩ Lb.b_stone_less (defBody s_stone_less) = true := by decide +kernel
abbrev s_divided : Stmt := topS 19
def T_divided : Tb := ⟨["x", "y", "heavy", "far", "even", "odd", "rest", "other", "number"], ["weight", "stone_product", "mirrored", "stone_less"], [], ["NoQuad", "NoStone", "NoQuad", "NoDial", "NoParts"], [], []⟩
theorem sc_divided : FnScope T_divided.N ["x", "y"] (defScope s_divided) := ⟨rfl, rfl, rfl, by decide +kernel, rfl, by decide +kernel, by decide +kernel⟩
theorem ck_divided : ckB T_divided ⟨defScope s_divided, fun _ => true⟩ Lb.b_divided (defBody s_divided) = true := by decide +kernel
abbrev s_common : Stmt := topS 20
def T_common : Tb := ⟨["x", "y", "one", "a", "b", "other", "c", "d", "k", "rest"], ["weight", "divided", "stone_less", "stone_product"], [("ONE", (.tuple [(.int 2), (.int 0), (.int 0), (.int 0)])), ("NOUGHT", (.tuple [(.int 0), (.int 0), (.int 0), (.int 0)]))], ["NoQuad", "NoStone", "NoQuad", "NoDial", "NoParts"], [], []⟩
theorem sc_common : FnScope T_common.N ["x", "y"] (defScope s_common) := ⟨rfl, rfl, rfl, by decide +kernel, rfl, by decide +kernel, by decide +kernel⟩
theorem ck_common : ckB T_common ⟨defScope s_common, fun _ => true⟩ Lb.b_common (defBody s_common) = true := by decide +kernel
abbrev s_lowest : Stmt := topS 22
def T_lowest : Tb := ⟨["rows", "bottom", "common", "number", "row"], ["divisor"], [], ["NoQuad", "NoStone", "NoQuad", "NoDial", "NoParts"], [], []⟩
theorem sc_lowest : FnScope T_lowest.N ["rows", "bottom"] (defScope s_lowest) := ⟨rfl, rfl, rfl, by decide +kernel, rfl, by decide +kernel, by decide +kernel⟩
theorem ck_lowest : ckB T_lowest ⟨defScope s_lowest, fun _ => true⟩ Lb.b_lowest (defBody s_lowest) = true := by decide +kernel
abbrev s_turn_of : Stmt := topS 23
def T_turn_of : Tb := ⟨["quad", "first", "second", "third", "a", "b", "c", "d"], ["size", "lowest"], [], ["NoQuad", "NoStone", "NoQuad", "NoDial", "NoParts"], [], []⟩
theorem sc_turn_of : FnScope T_turn_of.N ["quad"] (defScope s_turn_of) := ⟨rfl, rfl, rfl, by decide +kernel, rfl, by decide +kernel, by decide +kernel⟩
theorem ck_turn_of : ckB T_turn_of ⟨defScope s_turn_of, fun _ => true⟩ Lb.b_turn_of (defBody s_turn_of) = true := by decide +kernel
abbrev s_quad_of : Stmt := topS 24
def T_quad_of : Tb := ⟨["turn", "near", "some", "bottom", "x", "y", "z", "quad"], ["plain", "size"], [], ["NoQuad", "NoStone", "NoQuad", "NoDial", "NoParts"], [], []⟩
theorem sc_quad_of : FnScope T_quad_of.N ["turn"] (defScope s_quad_of) := ⟨rfl, rfl, rfl, by decide +kernel, rfl, by decide +kernel, by decide +kernel⟩
theorem ck_quad_of : ckB T_quad_of ⟨defScope s_quad_of, fun _ => true⟩ Lb.b_quad_of (defBody s_quad_of) = true := by decide +kernel
abbrev s_times : Stmt := topS 25
def T_times : Tb := ⟨["one", "other"], [], [], ["NoQuad", "NoStone", "NoQuad", "NoDial", "NoParts"], [], []⟩
theorem sc_times : FnScope T_times.N ["one", "other"] (defScope s_times) := ⟨rfl, rfl, rfl, by decide +kernel, rfl, by decide +kernel, by decide +kernel⟩
theorem ck_times : ckB T_times ⟨defScope s_times, fun _ => true⟩ Lb.b_times (defBody s_times) = true := by decide +kernel
abbrev s_columns : Stmt := topS 26
def T_columns : Tb := ⟨["turn", "rows", "k"], [], [], ["NoQuad", "NoStone", "NoQuad", "NoDial", "NoParts"], [], []⟩
theorem sc_columns : FnScope T_columns.N ["turn"] (defScope s_columns) := ⟨rfl, rfl, rfl, by decide +kernel, rfl, by decide +kernel, by decide +kernel⟩
theorem ck_columns : ckB T_columns ⟨defScope s_columns, fun _ => true⟩ Lb.b_columns (defBody s_columns) = true := by decide +kernel
abbrev s_after : Stmt := topS 27
def T_after : Tb := ⟨["one", "other", "some", "rows", "row", "column"], ["columns", "times", "lowest"], [], ["NoQuad", "NoStone", "NoQuad", "NoDial", "NoParts"], [], []⟩
theorem sc_after : FnScope T_after.N ["one", "other"] (defScope s_after) := ⟨rfl, rfl, rfl, by decide +kernel, rfl, by decide +kernel, by decide +kernel⟩
theorem ck_after : ckB T_after ⟨defScope s_after, fun _ => true⟩ Lb.b_after (defBody s_after) = true := by decide +kernel
abbrev s_back : Stmt := topS 28
def T_back : Tb := ⟨["turn"], ["columns"], [], ["NoQuad", "NoStone", "NoQuad", "NoDial", "NoParts"], [], []⟩
theorem sc_back : FnScope T_back.N ["turn"] (defScope s_back) := ⟨rfl, rfl, rfl, by decide +kernel, rfl, by decide +kernel, by decide +kernel⟩
theorem ck_back : ckB T_back ⟨defScope s_back, fun _ => true⟩ Lb.b_back (defBody s_back) = true := by decide +kernel
abbrev s_turn_of_dial : Stmt := topS 30
def T_turn_of_dial : Tb := ⟨["dial", "w", "m"], ["times", "divisor", "turn_of", "common"], [], ["NoQuad", "NoStone", "NoQuad", "NoDial", "NoParts"], [], []⟩
theorem sc_turn_of_dial : FnScope T_turn_of_dial.N ["dial"] (defScope s_turn_of_dial) := ⟨rfl, rfl, rfl, by decide +kernel, rfl, by decide +kernel, by decide +kernel⟩
theorem ck_turn_of_dial : ckB T_turn_of_dial ⟨defScope s_turn_of_dial, fun _ => true⟩ Lb.b_turnofdial (defBody s_turn_of_dial) = true := by decide +kernel
abbrev s_parted : Stmt := topS 32
def T_parted : Tb := ⟨["turn", "sizes", "total", "number", "left", "found", "told"], ["quad_of", "common", "turn_of"], [], ["NoQuad", "NoStone", "NoQuad", "NoDial", "NoParts"], [], []⟩
theorem sc_parted : FnScope T_parted.N ["turn", "sizes"] (defScope s_parted) := ⟨rfl, rfl, rfl, by decide +kernel, rfl, by decide +kernel, by decide +kernel⟩
theorem ck_parted : ckB T_parted ⟨defScope s_parted, fun _ => true⟩ Lb.b_parted (defBody s_parted) = true := by decide +kernel
abbrev s_stripped : Stmt := topS 34
def T_stripped : Tb := ⟨["number", "other", "common"], ["divisor"], [], ["NoQuad", "NoStone", "NoQuad", "NoDial", "NoParts"], [], []⟩
theorem sc_stripped : FnScope T_stripped.N ["number", "other"] (defScope s_stripped) := ⟨rfl, rfl, rfl, by decide +kernel, rfl, by decide +kernel, by decide +kernel⟩
theorem ck_stripped : ckB T_stripped ⟨defScope s_stripped, fun _ => true⟩ Lb.b_stripped (defBody s_stripped) = true := by decide +kernel
abbrev s_dial_of : Stmt := topS 35
def T_dial_of : Tb := ⟨["turn", "m", "w", "held", "column", "lot", "most", "often", "a", "b"], ["columns", "divisor", "stripped"], [], ["NoQuad", "NoStone", "NoQuad", "NoDial", "NoParts"], [], []⟩
theorem sc_dial_of : FnScope T_dial_of.N ["turn"] (defScope s_dial_of) := ⟨rfl, rfl, rfl, by decide +kernel, rfl, by decide +kernel, by decide +kernel⟩
theorem ck_dial_of : ckB T_dial_of ⟨defScope s_dial_of, fun _ => true⟩ Lb.b_dial_of (defBody s_dial_of) = true := by decide +kernel
abbrev s_share_alike : Stmt := topS 36
def T_share_alike : Tb := ⟨["one", "other"], ["after", "back"], [], ["NoQuad", "NoStone", "NoQuad", "NoDial", "NoParts"], [], []⟩
theorem sc_share_alike : FnScope T_share_alike.N ["one", "other"] (defScope s_share_alike) := ⟨rfl, rfl, rfl, by decide +kernel, rfl, by decide +kernel, by decide +kernel⟩
theorem ck_share_alike : ckB T_share_alike ⟨defScope s_share_alike, fun _ => true⟩ Lb.b_share_alike (defBody s_share_alike) = true := by decide +kernel
abbrev s__law_cell_at : Stmt := topS 38
def T__law_cell_at : Tb := ⟨["script", "k"], [], [], ["NoQuad", "NoStone", "NoQuad", "NoDial", "NoParts"], [], []⟩
theorem sc__law_cell_at : FnScope T__law_cell_at.N ["script", "k"] (defScope s__law_cell_at) := ⟨rfl, rfl, rfl, by decide +kernel, rfl, by decide +kernel, by decide +kernel⟩
theorem ck__law_cell_at : ckB T__law_cell_at ⟨defScope s__law_cell_at, fun _ => true⟩ Lb.b_cell (defBody s__law_cell_at) = true := by decide +kernel
abbrev s__law_near : Stmt := topS 39
def T__law_near : Tb := ⟨["cell", "most", "left"], [], [], ["NoQuad", "NoStone", "NoQuad", "NoDial", "NoParts"], [], []⟩
theorem sc__law_near : FnScope T__law_near.N ["cell", "most"] (defScope s__law_near) := ⟨rfl, rfl, rfl, by decide +kernel, rfl, by decide +kernel, by decide +kernel⟩
theorem ck__law_near : ckB T__law_near ⟨defScope s__law_near, fun _ => true⟩ Lb.b_near (defBody s__law_near) = true := by decide +kernel
abbrev s__law_number : Stmt := topS 40
def T__law_number : Tb := ⟨["found"], [], [], ["NoQuad", "NoStone", "NoQuad", "NoDial", "NoParts"], [], []⟩
theorem sc__law_number : FnScope T__law_number.N ["found"] (defScope s__law_number) := ⟨rfl, rfl, rfl, by decide +kernel, rfl, by decide +kernel, by decide +kernel⟩
theorem ck__law_number : ckB T__law_number ⟨defScope s__law_number, fun _ => true⟩ Lb.b_lnumber (defBody s__law_number) = true := by decide +kernel
abbrev s__law_divisor : Stmt := topS 41
def T__law_divisor : Tb := ⟨["numbers", "found", "one", "other", "left"], [], [], ["NoQuad", "NoStone", "NoQuad", "NoDial", "NoParts"], [], []⟩
theorem sc__law_divisor : FnScope T__law_divisor.N ["numbers"] (defScope s__law_divisor) := ⟨rfl, rfl, rfl, by decide +kernel, rfl, by decide +kernel, by decide +kernel⟩
theorem ck__law_divisor : ckB T__law_divisor ⟨defScope s__law_divisor, fun _ => true⟩ Lb.b_ldiv2 (defBody s__law_divisor) = true := by decide +kernel
abbrev s__law_dot : Stmt := topS 42
def T__law_dot : Tb := ⟨["one", "other"], [], [], ["NoQuad", "NoStone", "NoQuad", "NoDial", "NoParts"], [], []⟩
theorem sc__law_dot : FnScope T__law_dot.N ["one", "other"] (defScope s__law_dot) := ⟨rfl, rfl, rfl, by decide +kernel, rfl, by decide +kernel, by decide +kernel⟩
theorem ck__law_dot : ckB T__law_dot ⟨defScope s__law_dot, fun _ => true⟩ Lb.b_ldot (defBody s__law_dot) = true := by decide +kernel
abbrev s__law_is_turn : Stmt := topS 43
def T__law_is_turn : Tb := ⟨["found", "flat", "row", "j", "x", "y", "third", "one", "k"], ["_law_number", "_law_dot", "_law_divisor"], [], ["NoQuad", "NoStone", "NoQuad", "NoDial", "NoParts"], [], []⟩
theorem sc__law_is_turn : FnScope T__law_is_turn.N ["found"] (defScope s__law_is_turn) := ⟨rfl, rfl, rfl, by decide +kernel, rfl, by decide +kernel, by decide +kernel⟩
theorem ck__law_is_turn : ckB T__law_is_turn ⟨defScope s__law_is_turn, fun _ => true⟩ Lb.b_listurn3 (defBody s__law_is_turn) = true := by decide +kernel
abbrev s__law_dial : Stmt := topS 44
def T__law_dial : Tb := ⟨["script", "w", "k", "m", "by"], ["_law_near", "_law_dot", "_law_cell_at", "_law_divisor"], [], ["NoQuad", "NoStone", "NoQuad", "NoDial", "NoParts"], [], []⟩
theorem sc__law_dial : FnScope T__law_dial.N ["script"] (defScope s__law_dial) := ⟨rfl, rfl, rfl, by decide +kernel, rfl, by decide +kernel, by decide +kernel⟩
theorem ck__law_dial : ckB T__law_dial ⟨defScope s__law_dial, fun _ => true⟩ b__law_dial (defBody s__law_dial) = true := by decide +kernel
abbrev s_law : Stmt := topS 45
def T_law : Tb := ⟨["script", "dial", "turned", "found", "w", "m", "v", "again"], ["_law_dial", "turn_of_dial", "_law_is_turn", "dial_of", "parted", "share_alike"], [], ["NoQuad", "NoStone", "NoQuad", "NoDial", "NoParts"], [], []⟩
theorem sc_law : FnScope T_law.N ["script"] (defScope s_law) := ⟨rfl, rfl, rfl, by decide +kernel, rfl, by decide +kernel, by decide +kernel⟩
theorem ck_law : ckB T_law ⟨defScope s_law, fun _ => true⟩ b_law (defBody s_law) = true := by decide +kernel
section
variable {P : Program} {w : World} {K : PySem.W.Frag} {mg : Str → Option Value} {base : Heap} {ev : Nat → Value}
theorem can_divisor {f : Addr} (A : At K "divisor" s_divisor f) {h : Heap} (X : K.In h) (G : h.Ns mainGlobals mg) (bl : ∀ y ∈ bltNames, mg y = none) (hx : ∀ (k : Nat) (y : Str), (["NoQuad", "NoStone", "NoQuad", "NoDial", "NoParts"] : List Str)[k]? = some y → ExcAt K mg ev k y) : Can P w K mg base ev 1 "divisor" Lb.d_divisor := by
  obtain ⟨hm, kV, dc, pm, cd, ct, an, F⟩ := A.fn X G
  exact can_of (lvl := 0) F hm (F.binds fun _ _ _ _ _ _ us hl => match us, hl with | [_], _ => rfl) sc_divisor ck_divisor (by decide) calls_nil bl con_nil hx kit0 hnd0
theorem can_product {f : Addr} (A : At K "product" s_product f) {h : Heap} (X : K.In h) (G : h.Ns mainGlobals mg) (bl : ∀ y ∈ bltNames, mg y = none) (hx : ∀ (k : Nat) (y : Str), (["NoQuad", "NoStone", "NoQuad", "NoDial", "NoParts"] : List Str)[k]? = some y → ExcAt K mg ev k y) : Can P w K mg base ev 1 "product" Lb.d_product := by
  obtain ⟨hm, kV, dc, pm, cd, ct, an, F⟩ := A.fn X G
  exact can_of (lvl := 0) F hm (F.binds fun _ _ _ _ _ _ us hl => match us, hl with | [_, _], _ => rfl) sc_product ck_product (by decide) calls_nil bl con_nil hx kit0 hnd0
theorem can_mirrored {f : Addr} (A : At K "mirrored" s_mirrored f) {h : Heap} (X : K.In h) (G : h.Ns mainGlobals mg) (bl : ∀ y ∈ bltNames, mg y = none) (hx : ∀ (k : Nat) (y : Str), (["NoQuad", "NoStone", "NoQuad", "NoDial", "NoParts"] : List Str)[k]? = some y → ExcAt K mg ev k y) : Can P w K mg base ev 1 "mirrored" Lb.d_mirrored := by
  obtain ⟨hm, kV, dc, pm, cd, ct, an, F⟩ := A.fn X G
  exact can_of (lvl := 0) F hm (F.binds fun _ _ _ _ _ _ us hl => match us, hl with | [_], _ => rfl) sc_mirrored ck_mirrored (by decide) calls_nil bl con_nil hx kit0 hnd0
theorem can_size {f : Addr} (A : At K "size" s_size f) {h : Heap} (X : K.In h) (G : h.Ns mainGlobals mg) (bl : ∀ y ∈ bltNames, mg y = none) (hx : ∀ (k : Nat) (y : Str), (["NoQuad", "NoStone", "NoQuad", "NoDial", "NoParts"] : List Str)[k]? = some y → ExcAt K mg ev k y) : Can P w K mg base ev 1 "size" Lb.d_size := by
  obtain ⟨hm, kV, dc, pm, cd, ct, an, F⟩ := A.fn X G
  exact can_of (lvl := 0) F hm (F.binds fun _ _ _ _ _ _ us hl => match us, hl with | [_], _ => rfl) sc_size ck_size (by decide) calls_nil bl con_nil hx kit0 hnd0
theorem can_plain {f : Addr} (A : At K "plain" s_plain f) {h : Heap} (X : K.In h) (G : h.Ns mainGlobals mg) (bl : ∀ y ∈ bltNames, mg y = none) (c_divisor : Can P w K mg base ev 1 "divisor" Lb.d_divisor) (hx : ∀ (k : Nat) (y : Str), (["NoQuad", "NoStone", "NoQuad", "NoDial", "NoParts"] : List Str)[k]? = some y → ExcAt K mg ev k y) : Can P w K mg base ev 2 "plain" Lb.d_plain := by
  obtain ⟨hm, kV, dc, pm, cd, ct, an, F⟩ := A.fn X G
  exact can_of (lvl := 1) F hm (F.binds fun _ _ _ _ _ _ us hl => match us, hl with | [_], _ => rfl) sc_plain ck_plain (by decide) (calls_cons c_divisor (by decide) calls_nil) bl con_nil hx kit0 hnd0
theorem can_stone_product {f : Addr} (A : At K "stone_product" s_stone_product f) {h : Heap} (X : K.In h) (G : h.Ns mainGlobals mg) (bl : ∀ y ∈ bltNames, mg y = none) (c_product : Can P w K mg base ev 1 "product" Lb.d_product) (hx : ∀ (k : Nat) (y : Str), (["NoQuad", "NoStone", "NoQuad", "NoDial", "NoParts"] : List Str)[k]? = some y → ExcAt K mg ev k y) : Can P w K mg base ev 2 "stone_product" Lb.d_stone_product := by
  obtain ⟨hm, kV, dc, pm, cd, ct, an, F⟩ := A.fn X G
  exact can_of (lvl := 1) F hm (F.binds fun _ _ _ _ _ _ us hl => match us, hl with | [_, _], _ => rfl) sc_stone_product ck_stone_product (by decide) (calls_cons c_product (by decide) calls_nil) bl con_nil hx kit0 hnd0
theorem can_weight {f : Addr} (A : At K "weight" s_weight f) {h : Heap} (X : K.In h) (G : h.Ns mainGlobals mg) (bl : ∀ y ∈ bltNames, mg y = none) (c_size : Can P w K mg base ev 1 "size" Lb.d_size) (hx : ∀ (k : Nat) (y : Str), (["NoQuad", "NoStone", "NoQuad", "NoDial", "NoParts"] : List Str)[k]? = some y → ExcAt K mg ev k y) : Can P w K mg base ev 2 "weight" Lb.d_weight := by
  obtain ⟨hm, kV, dc, pm, cd, ct, an, F⟩ := A.fn X G
  exact can_of (lvl := 1) F hm (F.binds fun _ _ _ _ _ _ us hl => match us, hl with | [_], _ => rfl) sc_weight ck_weight (by decide) (calls_cons c_size (by decide) calls_nil) bl con_nil hx kit0 hnd0
theorem can_stone_less {f : Addr} (A : At K "stone_less" s_stone_less f) {h : Heap} (X : K.In h) (G : h.Ns mainGlobals mg) (bl : ∀ y ∈ bltNames, mg y = none) (hx : ∀ (k : Nat) (y : Str), (["NoQuad", "NoStone", "NoQuad", "NoDial", "NoParts"] : List Str)[k]? = some y → ExcAt K mg ev k y) : Can P w K mg base ev 1 "stone_less" Lb.d_stone_less := by
  obtain ⟨hm, kV, dc, pm, cd, ct, an, F⟩ := A.fn X G
  exact can_of (lvl := 0) F hm (F.binds fun _ _ _ _ _ _ us hl => match us, hl with | [_, _], _ => rfl) sc_stone_less ck_stone_less (by decide) calls_nil bl con_nil hx kit0 hnd0
theorem can_divided {f : Addr} (A : At K "divided" s_divided f) {h : Heap} (X : K.In h) (G : h.Ns mainGlobals mg) (bl : ∀ y ∈ bltNames, mg y = none) (c_weight : Can P w K mg base ev 2 "weight" Lb.d_weight) (c_stone_product : Can P w K mg base ev 2 "stone_product" Lb.d_stone_product) (c_mirrored : Can P w K mg base ev 1 "mirrored" Lb.d_mirrored) (c_stone_less : Can P w K mg base ev 1 "stone_less" Lb.d_stone_less) (hx : ∀ (k : Nat) (y : Str), (["NoQuad", "NoStone", "NoQuad", "NoDial", "NoParts"] : List Str)[k]? = some y → ExcAt K mg ev k y) : Can P w K mg base ev 3 "divided" Lb.d_divided := by
  obtain ⟨hm, kV, dc, pm, cd, ct, an, F⟩ := A.fn X G
  exact can_of (lvl := 2) F hm (F.binds fun _ _ _ _ _ _ us hl => match us, hl with | [_, _], _ => rfl) sc_divided ck_divided (by decide) (calls_cons c_weight (by decide) (calls_cons c_stone_product (by decide) (calls_cons c_mirrored (by decide) (calls_cons c_stone_less (by decide) calls_nil)))) bl con_nil hx kit0 hnd0
theorem can_common {f : Addr} (A : At K "common" s_common f) {h : Heap} (X : K.In h) (G : h.Ns mainGlobals mg) (bl : ∀ y ∈ bltNames, mg y = none) (c_weight : Can P w K mg base ev 2 "weight" Lb.d_weight) (c_divided : Can P w K mg base ev 3 "divided" Lb.d_divided) (c_stone_less : Can P w K mg base ev 1 "stone_less" Lb.d_stone_less) (c_stone_product : Can P w K mg base ev 2 "stone_product" Lb.d_stone_product) (k_ONE : ∃ v u, mg "ONE" = some u ∧ RelV v u ∧ ∀ F, Dq K F v (.tuple [(.int 2), (.int 0), (.int 0), (.int 0)])) (k_NOUGHT : ∃ v u, mg "NOUGHT" = some u ∧ RelV v u ∧ ∀ F, Dq K F v (.tuple [(.int 0), (.int 0), (.int 0), (.int 0)])) (hx : ∀ (k : Nat) (y : Str), (["NoQuad", "NoStone", "NoQuad", "NoDial", "NoParts"] : List Str)[k]? = some y → ExcAt K mg ev k y) : Can P w K mg base ev 4 "common" Lb.d_common := by
  obtain ⟨hm, kV, dc, pm, cd, ct, an, F⟩ := A.fn X G
  exact can_of (lvl := 3) F hm (F.binds fun _ _ _ _ _ _ us hl => match us, hl with | [_, _], _ => rfl) sc_common ck_common (by decide) (calls_cons c_weight (by decide) (calls_cons c_divided (by decide) (calls_cons c_stone_less (by decide) (calls_cons c_stone_product (by decide) calls_nil)))) bl (con_cons k_ONE (con_cons k_NOUGHT con_nil)) hx kit0 hnd0
theorem can_lowest {f : Addr} (A : At K "lowest" s_lowest f) {h : Heap} (X : K.In h) (G : h.Ns mainGlobals mg) (bl : ∀ y ∈ bltNames, mg y = none) (c_divisor : Can P w K mg base ev 1 "divisor" Lb.d_divisor) (hx : ∀ (k : Nat) (y : Str), (["NoQuad", "NoStone", "NoQuad", "NoDial", "NoParts"] : List Str)[k]? = some y → ExcAt K mg ev k y) : Can P w K mg base ev 2 "lowest" Lb.d_lowest := by
  obtain ⟨hm, kV, dc, pm, cd, ct, an, F⟩ := A.fn X G
  exact can_of (lvl := 1) F hm (F.binds fun _ _ _ _ _ _ us hl => match us, hl with | [_, _], _ => rfl) sc_lowest ck_lowest (by decide) (calls_cons c_divisor (by decide) calls_nil) bl con_nil hx kit0 hnd0
theorem can_turn_of {f : Addr} (A : At K "turn_of" s_turn_of f) {h : Heap} (X : K.In h) (G : h.Ns mainGlobals mg) (bl : ∀ y ∈ bltNames, mg y = none) (c_size : Can P w K mg base ev 1 "size" Lb.d_size) (c_lowest : Can P w K mg base ev 2 "lowest" Lb.d_lowest) (hx : ∀ (k : Nat) (y : Str), (["NoQuad", "NoStone", "NoQuad", "NoDial", "NoParts"] : List Str)[k]? = some y → ExcAt K mg ev k y) : Can P w K mg base ev 3 "turn_of" Lb.d_turn_of := by
  obtain ⟨hm, kV, dc, pm, cd, ct, an, F⟩ := A.fn X G
  exact can_of (lvl := 2) F hm (F.binds fun _ _ _ _ _ _ us hl => match us, hl with | [_], _ => rfl) sc_turn_of ck_turn_of (by decide) (calls_cons c_size (by decide) (calls_cons c_lowest (by decide) calls_nil)) bl con_nil hx kit0 hnd0
theorem can_quad_of {f : Addr} (A : At K "quad_of" s_quad_of f) {h : Heap} (X : K.In h) (G : h.Ns mainGlobals mg) (bl : ∀ y ∈ bltNames, mg y = none) (c_plain : Can P w K mg base ev 2 "plain" Lb.d_plain) (c_size : Can P w K mg base ev 1 "size" Lb.d_size) (hx : ∀ (k : Nat) (y : Str), (["NoQuad", "NoStone", "NoQuad", "NoDial", "NoParts"] : List Str)[k]? = some y → ExcAt K mg ev k y) : Can P w K mg base ev 3 "quad_of" Lb.d_quad_of := by
  obtain ⟨hm, kV, dc, pm, cd, ct, an, F⟩ := A.fn X G
  exact can_of (lvl := 2) F hm (F.binds fun _ _ _ _ _ _ us hl => match us, hl with | [_], _ => rfl) sc_quad_of ck_quad_of (by decide) (calls_cons c_plain (by decide) (calls_cons c_size (by decide) calls_nil)) bl con_nil hx kit0 hnd0
theorem can_times {f : Addr} (A : At K "times" s_times f) {h : Heap} (X : K.In h) (G : h.Ns mainGlobals mg) (bl : ∀ y ∈ bltNames, mg y = none) (hx : ∀ (k : Nat) (y : Str), (["NoQuad", "NoStone", "NoQuad", "NoDial", "NoParts"] : List Str)[k]? = some y → ExcAt K mg ev k y) : Can P w K mg base ev 1 "times" Lb.d_times := by
  obtain ⟨hm, kV, dc, pm, cd, ct, an, F⟩ := A.fn X G
  exact can_of (lvl := 0) F hm (F.binds fun _ _ _ _ _ _ us hl => match us, hl with | [_, _], _ => rfl) sc_times ck_times (by decide) calls_nil bl con_nil hx kit0 hnd0
theorem can_columns {f : Addr} (A : At K "columns" s_columns f) {h : Heap} (X : K.In h) (G : h.Ns mainGlobals mg) (bl : ∀ y ∈ bltNames, mg y = none) (hx : ∀ (k : Nat) (y : Str), (["NoQuad", "NoStone", "NoQuad", "NoDial", "NoParts"] : List Str)[k]? = some y → ExcAt K mg ev k y) : Can P w K mg base ev 1 "columns" Lb.d_columns := by
  obtain ⟨hm, kV, dc, pm, cd, ct, an, F⟩ := A.fn X G
  exact can_of (lvl := 0) F hm (F.binds fun _ _ _ _ _ _ us hl => match us, hl with | [_], _ => rfl) sc_columns ck_columns (by decide) calls_nil bl con_nil hx kit0 hnd0
theorem can_after {f : Addr} (A : At K "after" s_after f) {h : Heap} (X : K.In h) (G : h.Ns mainGlobals mg) (bl : ∀ y ∈ bltNames, mg y = none) (c_columns : Can P w K mg base ev 1 "columns" Lb.d_columns) (c_times : Can P w K mg base ev 1 "times" Lb.d_times) (c_lowest : Can P w K mg base ev 2 "lowest" Lb.d_lowest) (hx : ∀ (k : Nat) (y : Str), (["NoQuad", "NoStone", "NoQuad", "NoDial", "NoParts"] : List Str)[k]? = some y → ExcAt K mg ev k y) : Can P w K mg base ev 3 "after" Lb.d_after := by
  obtain ⟨hm, kV, dc, pm, cd, ct, an, F⟩ := A.fn X G
  exact can_of (lvl := 2) F hm (F.binds fun _ _ _ _ _ _ us hl => match us, hl with | [_, _], _ => rfl) sc_after ck_after (by decide) (calls_cons c_columns (by decide) (calls_cons c_times (by decide) (calls_cons c_lowest (by decide) calls_nil))) bl con_nil hx kit0 hnd0
theorem can_back {f : Addr} (A : At K "back" s_back f) {h : Heap} (X : K.In h) (G : h.Ns mainGlobals mg) (bl : ∀ y ∈ bltNames, mg y = none) (c_columns : Can P w K mg base ev 1 "columns" Lb.d_columns) (hx : ∀ (k : Nat) (y : Str), (["NoQuad", "NoStone", "NoQuad", "NoDial", "NoParts"] : List Str)[k]? = some y → ExcAt K mg ev k y) : Can P w K mg base ev 2 "back" Lb.d_back := by
  obtain ⟨hm, kV, dc, pm, cd, ct, an, F⟩ := A.fn X G
  exact can_of (lvl := 1) F hm (F.binds fun _ _ _ _ _ _ us hl => match us, hl with | [_], _ => rfl) sc_back ck_back (by decide) (calls_cons c_columns (by decide) calls_nil) bl con_nil hx kit0 hnd0
theorem can_turn_of_dial {f : Addr} (A : At K "turn_of_dial" s_turn_of_dial f) {h : Heap} (X : K.In h) (G : h.Ns mainGlobals mg) (bl : ∀ y ∈ bltNames, mg y = none) (c_times : Can P w K mg base ev 1 "times" Lb.d_times) (c_divisor : Can P w K mg base ev 1 "divisor" Lb.d_divisor) (c_turn_of : Can P w K mg base ev 3 "turn_of" Lb.d_turn_of) (c_common : Can P w K mg base ev 4 "common" Lb.d_common) (hx : ∀ (k : Nat) (y : Str), (["NoQuad", "NoStone", "NoQuad", "NoDial", "NoParts"] : List Str)[k]? = some y → ExcAt K mg ev k y) : Can P w K mg base ev 5 "turn_of_dial" Lb.d_turnofdial := by
  obtain ⟨hm, kV, dc, pm, cd, ct, an, F⟩ := A.fn X G
  exact can_of (lvl := 4) F hm (F.binds fun _ _ _ _ _ _ us hl => match us, hl with | [_], _ => rfl) sc_turn_of_dial ck_turn_of_dial (by decide) (calls_cons c_times (by decide) (calls_cons c_divisor (by decide) (calls_cons c_turn_of (by decide) (calls_cons c_common (by decide) calls_nil)))) bl con_nil hx kit0 hnd0
theorem can_parted {f : Addr} (A : At K "parted" s_parted f) {h : Heap} (X : K.In h) (G : h.Ns mainGlobals mg) (bl : ∀ y ∈ bltNames, mg y = none) (c_quad_of : Can P w K mg base ev 3 "quad_of" Lb.d_quad_of) (c_common : Can P w K mg base ev 4 "common" Lb.d_common) (c_turn_of : Can P w K mg base ev 3 "turn_of" Lb.d_turn_of) (hx : ∀ (k : Nat) (y : Str), (["NoQuad", "NoStone", "NoQuad", "NoDial", "NoParts"] : List Str)[k]? = some y → ExcAt K mg ev k y) : Can P w K mg base ev 5 "parted" Lb.d_parted := by
  obtain ⟨hm, kV, dc, pm, cd, ct, an, F⟩ := A.fn X G
  exact can_of (lvl := 4) F hm (F.binds fun _ _ _ _ _ _ us hl => match us, hl with | [_, _], _ => rfl) sc_parted ck_parted (by decide) (calls_cons c_quad_of (by decide) (calls_cons c_common (by decide) (calls_cons c_turn_of (by decide) calls_nil))) bl con_nil hx kit0 hnd0
theorem can_stripped {f : Addr} (A : At K "stripped" s_stripped f) {h : Heap} (X : K.In h) (G : h.Ns mainGlobals mg) (bl : ∀ y ∈ bltNames, mg y = none) (c_divisor : Can P w K mg base ev 1 "divisor" Lb.d_divisor) (hx : ∀ (k : Nat) (y : Str), (["NoQuad", "NoStone", "NoQuad", "NoDial", "NoParts"] : List Str)[k]? = some y → ExcAt K mg ev k y) : Can P w K mg base ev 2 "stripped" Lb.d_stripped := by
  obtain ⟨hm, kV, dc, pm, cd, ct, an, F⟩ := A.fn X G
  exact can_of (lvl := 1) F hm (F.binds fun _ _ _ _ _ _ us hl => match us, hl with | [_, _], _ => rfl) sc_stripped ck_stripped (by decide) (calls_cons c_divisor (by decide) calls_nil) bl con_nil hx kit0 hnd0
theorem can_dial_of {f : Addr} (A : At K "dial_of" s_dial_of f) {h : Heap} (X : K.In h) (G : h.Ns mainGlobals mg) (bl : ∀ y ∈ bltNames, mg y = none) (c_columns : Can P w K mg base ev 1 "columns" Lb.d_columns) (c_divisor : Can P w K mg base ev 1 "divisor" Lb.d_divisor) (c_stripped : Can P w K mg base ev 2 "stripped" Lb.d_stripped) (hx : ∀ (k : Nat) (y : Str), (["NoQuad", "NoStone", "NoQuad", "NoDial", "NoParts"] : List Str)[k]? = some y → ExcAt K mg ev k y) : Can P w K mg base ev 3 "dial_of" Lb.d_dial_of := by
  obtain ⟨hm, kV, dc, pm, cd, ct, an, F⟩ := A.fn X G
  exact can_of (lvl := 2) F hm (F.binds fun _ _ _ _ _ _ us hl => match us, hl with | [_], _ => rfl) sc_dial_of ck_dial_of (by decide) (calls_cons c_columns (by decide) (calls_cons c_divisor (by decide) (calls_cons c_stripped (by decide) calls_nil))) bl con_nil hx kit0 hnd0
theorem can_share_alike {f : Addr} (A : At K "share_alike" s_share_alike f) {h : Heap} (X : K.In h) (G : h.Ns mainGlobals mg) (bl : ∀ y ∈ bltNames, mg y = none) (c_after : Can P w K mg base ev 3 "after" Lb.d_after) (c_back : Can P w K mg base ev 2 "back" Lb.d_back) (hx : ∀ (k : Nat) (y : Str), (["NoQuad", "NoStone", "NoQuad", "NoDial", "NoParts"] : List Str)[k]? = some y → ExcAt K mg ev k y) : Can P w K mg base ev 4 "share_alike" Lb.d_share_alike := by
  obtain ⟨hm, kV, dc, pm, cd, ct, an, F⟩ := A.fn X G
  exact can_of (lvl := 3) F hm (F.binds fun _ _ _ _ _ _ us hl => match us, hl with | [_, _], _ => rfl) sc_share_alike ck_share_alike (by decide) (calls_cons c_after (by decide) (calls_cons c_back (by decide) calls_nil)) bl con_nil hx kit0 hnd0
theorem can__law_cell_at {f : Addr} (A : At K "_law_cell_at" s__law_cell_at f) {h : Heap} (X : K.In h) (G : h.Ns mainGlobals mg) (bl : ∀ y ∈ bltNames, mg y = none) (hx : ∀ (k : Nat) (y : Str), (["NoQuad", "NoStone", "NoQuad", "NoDial", "NoParts"] : List Str)[k]? = some y → ExcAt K mg ev k y) : Can P w K mg base ev 1 "_law_cell_at" Lb.d_cell := by
  obtain ⟨hm, kV, dc, pm, cd, ct, an, F⟩ := A.fn X G
  exact can_of (lvl := 0) F hm (F.binds fun _ _ _ _ _ _ us hl => match us, hl with | [_, _], _ => rfl) sc__law_cell_at ck__law_cell_at (by decide) calls_nil bl con_nil hx kit0 hnd0
theorem can__law_near {f : Addr} (A : At K "_law_near" s__law_near f) {h : Heap} (X : K.In h) (G : h.Ns mainGlobals mg) (bl : ∀ y ∈ bltNames, mg y = none) (hx : ∀ (k : Nat) (y : Str), (["NoQuad", "NoStone", "NoQuad", "NoDial", "NoParts"] : List Str)[k]? = some y → ExcAt K mg ev k y) : Can P w K mg base ev 1 "_law_near" Lb.d_near := by
  obtain ⟨hm, kV, dc, pm, cd, ct, an, F⟩ := A.fn X G
  exact can_of (lvl := 0) F hm (F.binds fun _ _ _ _ _ _ us hl => match us, hl with | [_, _], _ => rfl) sc__law_near ck__law_near (by decide) calls_nil bl con_nil hx kit0 hnd0
theorem can__law_number {f : Addr} (A : At K "_law_number" s__law_number f) {h : Heap} (X : K.In h) (G : h.Ns mainGlobals mg) (bl : ∀ y ∈ bltNames, mg y = none) (hx : ∀ (k : Nat) (y : Str), (["NoQuad", "NoStone", "NoQuad", "NoDial", "NoParts"] : List Str)[k]? = some y → ExcAt K mg ev k y) : Can P w K mg base ev 1 "_law_number" Lb.d_lnumber := by
  obtain ⟨hm, kV, dc, pm, cd, ct, an, F⟩ := A.fn X G
  exact can_of (lvl := 0) F hm (F.binds fun _ _ _ _ _ _ us hl => match us, hl with | [_], _ => rfl) sc__law_number ck__law_number (by decide) calls_nil bl con_nil hx kit0 hnd0
theorem can__law_divisor {f : Addr} (A : At K "_law_divisor" s__law_divisor f) {h : Heap} (X : K.In h) (G : h.Ns mainGlobals mg) (bl : ∀ y ∈ bltNames, mg y = none) (hx : ∀ (k : Nat) (y : Str), (["NoQuad", "NoStone", "NoQuad", "NoDial", "NoParts"] : List Str)[k]? = some y → ExcAt K mg ev k y) : Can P w K mg base ev 1 "_law_divisor" Lb.d_ldiv2 := by
  obtain ⟨hm, kV, dc, pm, cd, ct, an, F⟩ := A.fn X G
  exact can_of (lvl := 0) F hm (F.binds fun _ _ _ _ _ _ us hl => match us, hl with | [_], _ => rfl) sc__law_divisor ck__law_divisor (by decide) calls_nil bl con_nil hx kit0 hnd0
theorem can__law_dot {f : Addr} (A : At K "_law_dot" s__law_dot f) {h : Heap} (X : K.In h) (G : h.Ns mainGlobals mg) (bl : ∀ y ∈ bltNames, mg y = none) (hx : ∀ (k : Nat) (y : Str), (["NoQuad", "NoStone", "NoQuad", "NoDial", "NoParts"] : List Str)[k]? = some y → ExcAt K mg ev k y) : Can P w K mg base ev 1 "_law_dot" Lb.d_ldot := by
  obtain ⟨hm, kV, dc, pm, cd, ct, an, F⟩ := A.fn X G
  exact can_of (lvl := 0) F hm (F.binds fun _ _ _ _ _ _ us hl => match us, hl with | [_, _], _ => rfl) sc__law_dot ck__law_dot (by decide) calls_nil bl con_nil hx kit0 hnd0
theorem can__law_is_turn {f : Addr} (A : At K "_law_is_turn" s__law_is_turn f) {h : Heap} (X : K.In h) (G : h.Ns mainGlobals mg) (bl : ∀ y ∈ bltNames, mg y = none) (c__law_number : Can P w K mg base ev 1 "_law_number" Lb.d_lnumber) (c__law_dot : Can P w K mg base ev 1 "_law_dot" Lb.d_ldot) (c__law_divisor : Can P w K mg base ev 1 "_law_divisor" Lb.d_ldiv2) (hx : ∀ (k : Nat) (y : Str), (["NoQuad", "NoStone", "NoQuad", "NoDial", "NoParts"] : List Str)[k]? = some y → ExcAt K mg ev k y) : Can P w K mg base ev 2 "_law_is_turn" Lb.d_listurn3 := by
  obtain ⟨hm, kV, dc, pm, cd, ct, an, F⟩ := A.fn X G
  exact can_of (lvl := 1) F hm (F.binds fun _ _ _ _ _ _ us hl => match us, hl with | [_], _ => rfl) sc__law_is_turn ck__law_is_turn (by decide) (calls_cons c__law_number (by decide) (calls_cons c__law_dot (by decide) (calls_cons c__law_divisor (by decide) calls_nil))) bl con_nil hx kit0 hnd0
theorem can__law_dial {f : Addr} (A : At K "_law_dial" s__law_dial f) {h : Heap} (X : K.In h) (G : h.Ns mainGlobals mg) (bl : ∀ y ∈ bltNames, mg y = none) (c__law_near : Can P w K mg base ev 1 "_law_near" Lb.d_near) (c__law_dot : Can P w K mg base ev 1 "_law_dot" Lb.d_ldot) (c__law_cell_at : Can P w K mg base ev 1 "_law_cell_at" Lb.d_cell) (c__law_divisor : Can P w K mg base ev 1 "_law_divisor" Lb.d_ldiv2) (hx : ∀ (k : Nat) (y : Str), (["NoQuad", "NoStone", "NoQuad", "NoDial", "NoParts"] : List Str)[k]? = some y → ExcAt K mg ev k y) : Can P w K mg base ev 2 "_law_dial" d__law_dial := by
  obtain ⟨hm, kV, dc, pm, cd, ct, an, F⟩ := A.fn X G
  exact can_of (lvl := 1) F hm (F.binds fun _ _ _ _ _ _ us hl => match us, hl with | [_], _ => rfl) sc__law_dial ck__law_dial (by decide) (calls_cons c__law_near (by decide) (calls_cons c__law_dot (by decide) (calls_cons c__law_cell_at (by decide) (calls_cons c__law_divisor (by decide) calls_nil)))) bl con_nil hx kit0 hnd0
theorem ok_law {f : Addr} {fd : FuncData} (F : Fun K "law" "law" s_law f fd) (bl : ∀ y ∈ bltNames, mg y = none) (c__law_dial : Can P w K mg base ev 2 "_law_dial" d__law_dial) (c_turn_of_dial : Can P w K mg base ev 5 "turn_of_dial" Lb.d_turnofdial) (c__law_is_turn : Can P w K mg base ev 2 "_law_is_turn" Lb.d_listurn3) (c_dial_of : Can P w K mg base ev 3 "dial_of" Lb.d_dial_of) (c_parted : Can P w K mg base ev 5 "parted" Lb.d_parted) (c_share_alike : Can P w K mg base ev 4 "share_alike" Lb.d_share_alike) (hx : ∀ (k : Nat) (y : Str), (["NoQuad", "NoStone", "NoQuad", "NoDial", "NoParts"] : List Str)[k]? = some y → ExcAt K mg ev k y) : FnOk P w K mg base (L2.CX P w) 6 f fd ["script"] (spP K 1 d_law ev) :=
  fnOk (lvl := 5) F sc_law ck_law (by decide) (calls_cons c__law_dial (by decide) (calls_cons c_turn_of_dial (by decide) (calls_cons c__law_is_turn (by decide) (calls_cons c_dial_of (by decide) (calls_cons c_parted (by decide) (calls_cons c_share_alike (by decide) calls_nil)))))) bl con_nil hx kit0 hnd0
end
theorem all_mk {P : Program} {w : World} {K : PySem.W.Frag} {ev : Nat → Value} {h : Heap} {mg : Str → Option Value} {fa : Addr} {f_divisor f_product f_mirrored f_size f_plain f_stone_product f_weight f_stone_less f_divided f_common f_lowest f_turn_of f_quad_of f_times f_columns f_after f_back f_turn_of_dial f_parted f_stripped f_dial_of f_share_alike f__law_cell_at f__law_near f__law_number f__law_divisor f__law_dot f__law_is_turn f__law_dial f_law : Addr} (X : K.In h) (G : h.Ns mainGlobals mg) (hfa : mg "law" = some (.ref fa)) (A_divisor : At K "divisor" s_divisor f_divisor) (A_product : At K "product" s_product f_product) (A_mirrored : At K "mirrored" s_mirrored f_mirrored) (A_size : At K "size" s_size f_size) (A_plain : At K "plain" s_plain f_plain) (A_stone_product : At K "stone_product" s_stone_product f_stone_product) (A_weight : At K "weight" s_weight f_weight) (A_stone_less : At K "stone_less" s_stone_less f_stone_less) (A_divided : At K "divided" s_divided f_divided) (A_common : At K "common" s_common f_common) (A_lowest : At K "lowest" s_lowest f_lowest) (A_turn_of : At K "turn_of" s_turn_of f_turn_of) (A_quad_of : At K "quad_of" s_quad_of f_quad_of) (A_times : At K "times" s_times f_times) (A_columns : At K "columns" s_columns f_columns) (A_after : At K "after" s_after f_after) (A_back : At K "back" s_back f_back) (A_turn_of_dial : At K "turn_of_dial" s_turn_of_dial f_turn_of_dial) (A_parted : At K "parted" s_parted f_parted) (A_stripped : At K "stripped" s_stripped f_stripped) (A_dial_of : At K "dial_of" s_dial_of f_dial_of) (A_share_alike : At K "share_alike" s_share_alike f_share_alike) (A__law_cell_at : At K "_law_cell_at" s__law_cell_at f__law_cell_at) (A__law_near : At K "_law_near" s__law_near f__law_near) (A__law_number : At K "_law_number" s__law_number f__law_number) (A__law_divisor : At K "_law_divisor" s__law_divisor f__law_divisor) (A__law_dot : At K "_law_dot" s__law_dot f__law_dot) (A__law_is_turn : At K "_law_is_turn" s__law_is_turn f__law_is_turn) (A__law_dial : At K "_law_dial" s__law_dial f__law_dial) (A_law : At K "law" s_law f_law) (k_NOUGHT : ∀ {mg : Str → Option Value}, h.Ns mainGlobals mg → ∃ v u, mg "NOUGHT" = some u ∧ RelV v u ∧ ∀ F, Dq K F v (.tuple [(.int 0), (.int 0), (.int 0), (.int 0)])) (k_ONE : ∀ {mg : Str → Option Value}, h.Ns mainGlobals mg → ∃ v u, mg "ONE" = some u ∧ RelV v u ∧ ∀ F, Dq K F v (.tuple [(.int 2), (.int 0), (.int 0), (.int 0)])) (hx : ∀ (k : Nat) (y : Str), (["NoQuad", "NoStone", "NoQuad", "NoDial", "NoParts"] : List Str)[k]? = some y → ExcAt K mg ev k y) (z : Free K) :
    ∃ fd : FuncData, (∀ (s : Shared) (v : Value), BindsTo s fd ⟨[v], []⟩ [("script", v)]) ∧ ∀ base : Heap, K.In base → base.Ns mainGlobals mg → FnOk P w K mg base (L2.CX P w) 6 fa fd ["script"] (spP K 1 d_law ev) := by
  have bl := blt_all X G z
  obtain ⟨hm, kV, dc, pm, cd, ct, an, F⟩ := A_law.fn X G
  have e := hfa.symm.trans hm
  cases e
  refine ⟨PySem.W.fnOf "law" "law" (defArgs s_law) (defBody s_law) (defScope s_law) .none kV dc pm an cd ct, fun s v => .of_eq rfl, fun base _ _ => ?_⟩
  have c_divisor := can_divisor (P := P) (w := w) (base := base) (ev := ev) A_divisor X G bl  hx
  have c_product := can_product (P := P) (w := w) (base := base) (ev := ev) A_product X G bl  hx
  have c_mirrored := can_mirrored (P := P) (w := w) (base := base) (ev := ev) A_mirrored X G bl  hx
  have c_size := can_size (P := P) (w := w) (base := base) (ev := ev) A_size X G bl  hx
  have c_plain := can_plain (P := P) (w := w) (base := base) (ev := ev) A_plain X G bl c_divisor hx
  have c_stone_product := can_stone_product (P := P) (w := w) (base := base) (ev := ev) A_stone_product X G bl c_product hx
  have c_weight := can_weight (P := P) (w := w) (base := base) (ev := ev) A_weight X G bl c_size hx
  have c_stone_less := can_stone_less (P := P) (w := w) (base := base) (ev := ev) A_stone_less X G bl  hx
  have c_divided := can_divided (P := P) (w := w) (base := base) (ev := ev) A_divided X G bl c_weight c_stone_product c_mirrored c_stone_less hx
  have c_common := can_common (P := P) (w := w) (base := base) (ev := ev) A_common X G bl c_weight c_divided c_stone_less c_stone_product (k_ONE G) (k_NOUGHT G) hx
  have c_lowest := can_lowest (P := P) (w := w) (base := base) (ev := ev) A_lowest X G bl c_divisor hx
  have c_turn_of := can_turn_of (P := P) (w := w) (base := base) (ev := ev) A_turn_of X G bl c_size c_lowest hx
  have c_quad_of := can_quad_of (P := P) (w := w) (base := base) (ev := ev) A_quad_of X G bl c_plain c_size hx
  have c_times := can_times (P := P) (w := w) (base := base) (ev := ev) A_times X G bl  hx
  have c_columns := can_columns (P := P) (w := w) (base := base) (ev := ev) A_columns X G bl  hx
  have c_after := can_after (P := P) (w := w) (base := base) (ev := ev) A_after X G bl c_columns c_times c_lowest hx
  have c_back := can_back (P := P) (w := w) (base := base) (ev := ev) A_back X G bl c_columns hx
  have c_turn_of_dial := can_turn_of_dial (P := P) (w := w) (base := base) (ev := ev) A_turn_of_dial X G bl c_times c_divisor c_turn_of c_common hx
  have c_parted := can_parted (P := P) (w := w) (base := base) (ev := ev) A_parted X G bl c_quad_of c_common c_turn_of hx
  have c_stripped := can_stripped (P := P) (w := w) (base := base) (ev := ev) A_stripped X G bl c_divisor hx
  have c_dial_of := can_dial_of (P := P) (w := w) (base := base) (ev := ev) A_dial_of X G bl c_columns c_divisor c_stripped hx
  have c_share_alike := can_share_alike (P := P) (w := w) (base := base) (ev := ev) A_share_alike X G bl c_after c_back hx
  have c__law_cell_at := can__law_cell_at (P := P) (w := w) (base := base) (ev := ev) A__law_cell_at X G bl  hx
  have c__law_near := can__law_near (P := P) (w := w) (base := base) (ev := ev) A__law_near X G bl  hx
  have c__law_number := can__law_number (P := P) (w := w) (base := base) (ev := ev) A__law_number X G bl  hx
  have c__law_divisor := can__law_divisor (P := P) (w := w) (base := base) (ev := ev) A__law_divisor X G bl  hx
  have c__law_dot := can__law_dot (P := P) (w := w) (base := base) (ev := ev) A__law_dot X G bl  hx
  have c__law_is_turn := can__law_is_turn (P := P) (w := w) (base := base) (ev := ev) A__law_is_turn X G bl c__law_number c__law_dot c__law_divisor hx
  have c__law_dial := can__law_dial (P := P) (w := w) (base := base) (ev := ev) A__law_dial X G bl c__law_near c__law_dot c__law_cell_at c__law_divisor hx
  exact ok_law F bl c__law_dial c_turn_of_dial c__law_is_turn c_dial_of c_parted c_share_alike hx
end K59
open PySem PySem.W PyProof.Rows
set_option maxHeartbeats 0 in
theorem PySem.Challenge.cw_turngrid_k59_whole_dials_there_and_back_holds : PySem.Challenge.rw_turngrid_k59_whole_dials_there_and_back.Holds := by
  w_on; o_law; k_head; (case hw => w_witness2)
  k_fill
  refine L2.walk_of (l := PySem.Challenge.rw_turngrid_k59_whole_dials_there_and_back) (n := 63) (k := 6) (x := "script") (CX := fun w => L2.CX PySem.Challenge.rw_turngrid_k59_whole_dials_there_and_back.prog w) (sp := fun w => Tg.spK _ 1 K59.d_law ["NoQuad", "NoStone", "NoQuad", "NoDial", "NoParts"]) rfl (by decide) rfl ⟨rfl, by decide, by decide⟩ (fun w h Y => PySem.W.kIn_of Y) ?F (fun _ _ a ns hl _ hS => Tg.law_sp hS (K59.law_true ns hl)) (fun w H s e s' h => Tg.no_exc w _ H s e s' h)
  case F =>
    intro w mg fa h KX G hmg
    refine' K59.all_mk KX G hmg (Tg.at_mk ?a0 ?l0 ?c0 ?k0) (Tg.at_mk ?a1 ?l1 ?c1 ?k1) (Tg.at_mk ?a2 ?l2 ?c2 ?k2) (Tg.at_mk ?a3 ?l3 ?c3 ?k3) (Tg.at_mk ?a4 ?l4 ?c4 ?k4) (Tg.at_mk ?a5 ?l5 ?c5 ?k5) (Tg.at_mk ?a6 ?l6 ?c6 ?k6) (Tg.at_mk ?a7 ?l7 ?c7 ?k7) (Tg.at_mk ?a8 ?l8 ?c8 ?k8) (Tg.at_mk ?a9 ?l9 ?c9 ?k9) (Tg.at_mk ?a10 ?l10 ?c10 ?k10) (Tg.at_mk ?a11 ?l11 ?c11 ?k11) (Tg.at_mk ?a12 ?l12 ?c12 ?k12) (Tg.at_mk ?a13 ?l13 ?c13 ?k13) (Tg.at_mk ?a14 ?l14 ?c14 ?k14) (Tg.at_mk ?a15 ?l15 ?c15 ?k15) (Tg.at_mk ?a16 ?l16 ?c16 ?k16) (Tg.at_mk ?a17 ?l17 ?c17 ?k17) (Tg.at_mk ?a18 ?l18 ?c18 ?k18) (Tg.at_mk ?a19 ?l19 ?c19 ?k19) (Tg.at_mk ?a20 ?l20 ?c20 ?k20) (Tg.at_mk ?a21 ?l21 ?c21 ?k21) (Tg.at_mk ?a22 ?l22 ?c22 ?k22) (Tg.at_mk ?a23 ?l23 ?c23 ?k23) (Tg.at_mk ?a24 ?l24 ?c24 ?k24) (Tg.at_mk ?a25 ?l25 ?c25 ?k25) (Tg.at_mk ?a26 ?l26 ?c26 ?k26) (Tg.at_mk ?a27 ?l27 ?c27 ?k27) (Tg.at_mk ?a28 ?l28 ?c28 ?k28) (Tg.at_mk ?a29 ?l29 ?c29 ?k29) (fun G' => Tg.con_mk KX G' ?v0 (fun F => (Tg.dq4 ?w0_0 ?wc0_0 ?wd0_0 ?wr0_0_0 ?wr0_0_1 ?wr0_0_2 ?wr0_0_3 (.int 0) (.int 0) (.int 0) (.int 0)))) (fun G' => Tg.con_mk KX G' ?v1 (fun F => (Tg.dq4 ?w1_0 ?wc1_0 ?wd1_0 ?wr1_0_0 ?wr1_0_1 ?wr1_0_2 ?wr1_0_3 (.int 2) (.int 0) (.int 0) (.int 0)))) (Tg.hx_of KX G (Tg.hx_cons (Tg.exck_mk ?xa0 ?xb0 ?xc0 ?xd0 ?xe0) (Tg.hx_cons (Tg.exck_mk ?xa1 ?xb1 ?xc1 ?xd1 ?xe1) (Tg.hx_cons (Tg.exck_mk ?xa2 ?xb2 ?xc2 ?xd2 ?xe2) (Tg.hx_cons (Tg.exck_mk ?xa3 ?xb3 ?xc3 ?xd3 ?xe3) (Tg.hx_cons (Tg.exck_mk ?xa4 ?xb4 ?xc4 ?xd4 ?xe4) Tg.hx_nil)))))) (Tg.free_mk ?z0 ?z1 ?z2 ?z3 ?z4 ?z5 ?z6 ?z7 ?z8 ?z9 ?z10 ?z11 ?z12 ?z13 ?z14 ?z15)
    (case a0 => k_is); (case l0 => k_is); (case c0 => k_is); (case k0 => k_is); (case a1 => k_is); (case l1 => k_is); (case c1 => k_is); (case k1 => k_is); (case a2 => k_is); (case l2 => k_is); (case c2 => k_is); (case k2 => k_is); (case a3 => k_is); (case l3 => k_is); (case c3 => k_is); (case k3 => k_is); (case a4 => k_is); (case l4 => k_is); (case c4 => k_is); (case k4 => k_is); (case a5 => k_is); (case l5 => k_is); (case c5 => k_is); (case k5 => k_is); (case a6 => k_is); (case l6 => k_is); (case c6 => k_is); (case k6 => k_is); (case a7 => k_is); (case l7 => k_is); (case c7 => k_is); (case k7 => k_is); (case a8 => k_is); (case l8 => k_is); (case c8 => k_is); (case k8 => k_is); (case a9 => k_is); (case l9 => k_is); (case c9 => k_is); (case k9 => k_is); (case a10 => k_is); (case l10 => k_is); (case c10 => k_is); (case k10 => k_is); (case a11 => k_is); (case l11 => k_is); (case c11 => k_is); (case k11 => k_is); (case a12 => k_is); (case l12 => k_is); (case c12 => k_is); (case k12 => k_is); (case a13 => k_is); (case l13 => k_is); (case c13 => k_is); (case k13 => k_is); (case a14 => k_is); (case l14 => k_is); (case c14 => k_is); (case k14 => k_is); (case a15 => k_is); (case l15 => k_is); (case c15 => k_is); (case k15 => k_is); (case a16 => k_is); (case l16 => k_is); (case c16 => k_is); (case k16 => k_is); (case a17 => k_is); (case l17 => k_is); (case c17 => k_is); (case k17 => k_is); (case a18 => k_is); (case l18 => k_is); (case c18 => k_is); (case k18 => k_is); (case a19 => k_is); (case l19 => k_is); (case c19 => k_is); (case k19 => k_is); (case a20 => k_is); (case l20 => k_is); (case c20 => k_is); (case k20 => k_is); (case a21 => k_is); (case l21 => k_is); (case c21 => k_is); (case k21 => k_is); (case a22 => k_is); (case l22 => k_is); (case c22 => k_is); (case k22 => k_is); (case a23 => k_is); (case l23 => k_is); (case c23 => k_is); (case k23 => k_is); (case a24 => k_is); (case l24 => k_is); (case c24 => k_is); (case k24 => k_is); (case a25 => k_is); (case l25 => k_is); (case c25 => k_is); (case k25 => k_is); (case a26 => k_is); (case l26 => k_is); (case c26 => k_is); (case k26 => k_is); (case a27 => k_is); (case l27 => k_is); (case c27 => k_is); (case k27 => k_is); (case a28 => k_is); (case l28 => k_is); (case c28 => k_is); (case k28 => k_is); (case a29 => k_is); (case l29 => k_is); (case c29 => k_is); (case k29 => k_is); (case xa4 => k_is); (case xb4 => k_exc); (case xc4 => k_is); (case xd4 => k_is); (case xe4 => k_is); (case xa3 => k_is); (case xb3 => k_exc); (case xc3 => k_is); (case xd3 => k_is); (case xe3 => k_is); (case xa2 => k_is); (case xb2 => k_exc); (case xc2 => k_is); (case xd2 => k_is); (case xe2 => k_is); (case xa1 => k_is); (case xb1 => k_exc); (case xc1 => k_is); (case xd1 => k_is); (case xe1 => k_is); (case xa0 => k_is); (case xb0 => k_exc); (case xc0 => k_is); (case xd0 => k_is); (case xe0 => k_is); (case v0 => k_is); (case w0_0 => k_is); (case wc0_0 => rfl); (case wd0_0 => rfl); (case wr0_0_0 => exact ⟨_, rfl⟩); (case wr0_0_1 => exact ⟨_, rfl⟩); (case wr0_0_2 => exact ⟨_, rfl⟩); (case wr0_0_3 => exact ⟨_, rfl⟩); (case v1 => k_is); (case w1_0 => k_is); (case wc1_0 => rfl); (case wd1_0 => rfl); (case wr1_0_0 => exact ⟨_, rfl⟩); (case wr1_0_1 => exact ⟨_, rfl⟩); (case wr1_0_2 => exact ⟨_, rfl⟩); (case wr1_0_3 => exact ⟨_, rfl⟩); (case z0 => k_is); (case z1 => k_is); (case z2 => k_is); (case z3 => k_is); (case z4 => k_is); (case z5 => k_is); (case z6 => k_is); (case z7 => k_is); (case z8 => k_is); (case z9 => k_is); (case z10 => k_is); (case z11 => k_is); (case z12 => k_is); (case z13 => k_is); (case z14 => k_is); (case z15 => k_is)
