import PyProof.Rows.All
import Wide.All
import OpenK.AllK
import Wide.FinOn
import HandS.ForMost
import HandS.ForExc
import HandS.Wide
import HandS.Zip
import HandS.Rev
import HandS.IsInst
import HandS.TupAny
import HandS.TupMul
import HandS.Deep
import HandS.Style
import HandS.TryMany
import HandS.ExcIs
import PySem.Challenge.RW_turngrid_k28_counted
set_option Elab.async false
set_option linter.all false
set_option maxRecDepth 100000
set_option maxHeartbeats 4000000
namespace Tg
open PySem
inductive M (α : Type) where
  | stuck | ex (c : Nat) | ok (a : α)
@[inline] def M.bind {α β : Type} (x : M α) (f : α → M β) : M β := match x with
  | .stuck => .stuck
  | .ex c => .ex c
  | .ok a => f a
instance : Monad M where
  pure := M.ok
  bind := M.bind
@[simp] theorem bind_ok {α β : Type} (a : α) (f : α → M β) : (M.ok a >>= f) = f a := rfl
@[simp] theorem bind_stuck {α β : Type} (f : α → M β) : ((M.stuck : M α) >>= f) = .stuck := rfl
@[simp] theorem bind_ex {α β : Type} (c : Nat) (f : α → M β) : ((M.ex c : M α) >>= f) = .ex c := rfl
@[simp] theorem pure_ok {α : Type} (a : α) : (pure a : M α) = .ok a := rfl
abbrev D := PyData
inductive B where
  | val (d : D) | own (ds : List D)
def B.d : B → D
  | .val d => d
  | .own ds => .list ds
abbrev En := List (Option B)
inductive BOp where
  | add | sub | mul | fdiv | mod | pow
inductive COp where
  | lt | le | gt | ge | eq | ne | isIn | notIn | isN | notN | isB | notB
inductive Bi where
  | abs | len | int | list | tuple | sum | all | min | max | sorted
inductive Ty where
  | int | bool | tuple | list | str
inductive ItK where
  | seq | rng | zip | rev
inductive Tg where
  | nm (i : Nat) | tp (ts : List Tg)
inductive E where
  | var (i : Nat)
  | con (d : D)
  | glob (k : Nat) (d : D)
  | tup (es : List E)
  | lst (es : List E)
  | rep (es : List E) (b : E)
  | bop (o : BOp) (a b : E)
  | neg (a : E)
  | not (a : E)
  | and (a b : E)
  | or (a b : E)
  | cmp (o : COp) (a b : E)
  | ix (a b : E)
  | sl (a : E) (lo hi : List E)
  | bi (f : Bi) (es : List E)
  | isi (a : E) (t : Ty)
  | call (k : Nat) (es : List E)
  | lc (e : E) (t : Tg) (k : ItK) (es : List E) (c : List E) (own : List Nat)
def mulOk (i j : Int) : Bool := decide (i.natAbs.log2 + j.natAbs.log2 < 1000000)
def divOk (i j : Int) : Bool := j != 0 && !Builtin.divisionGoesByPylong i j
def lineOk (n : Nat) : Bool := decide (n < 1000000)
def bopD : BOp → D → D → M B
  | .add, .int i, .int j => .ok (.val (.int (i + j)))
  | .add, .list xs, .list ys => if lineOk (xs.length + ys.length) then .ok (.own (xs ++ ys)) else .stuck
  | .add, .tuple xs, .tuple ys => if lineOk (xs.length + ys.length) then .ok (.val (.tuple (xs ++ ys))) else .stuck
  | .sub, .int i, .int j => .ok (.val (.int (i - j)))
  | .mul, .int i, .int j => if mulOk i j then .ok (.val (.int (i * j))) else .stuck
  | .fdiv, .int i, .int j => if divOk i j then .ok (.val (.int (i.fdiv j))) else .stuck
  | .mod, .int i, .int j => if j != 0 then .ok (.val (.int (i.fmod j))) else .stuck
  | .pow, .int i, .int j => if decide (0 ≤ j) && decide (j ≤ 1000000) && decide (i.natAbs < 2 ^ 64) then .ok (.val (.int (i ^ j.toNat))) else .stuck
  | _, _, _ => .stuck
def repD (xs : List D) : D → M B
  | .int k => if decide (-(2 ^ 62) ≤ k) && decide (k < 2 ^ 62) && lineOk (xs.length * k.toNat) then .ok (.own (List.replicate k.toNat xs).flatten) else .stuck
  | _ => .stuck
def eqOk (x y : D) : Bool := SeqAt.shaped x && SeqAt.shaped y
def nonD : D → Bool
  | .none => true
  | _ => false
def cmpD : COp → D → D → M B
  | .lt, .int i, .int j => .ok (.val (.bool (decide (i < j))))
  | .le, .int i, .int j => .ok (.val (.bool (decide (i ≤ j))))
  | .gt, .int i, .int j => .ok (.val (.bool (decide (j < i))))
  | .ge, .int i, .int j => .ok (.val (.bool (decide (j ≤ i))))
  | .eq, x, y => if eqOk x y then .ok (.val (.bool (PyData.eqv x y))) else .stuck
  | .ne, x, y => if eqOk x y then .ok (.val (.bool (!PyData.eqv x y))) else .stuck
  | .isIn, x, .list ys => if eqOk x (.list ys) then .ok (.val (.bool (ys.any fun z => PyData.eqv z x))) else .stuck
  | .notIn, x, .list ys => if eqOk x (.list ys) then .ok (.val (.bool (!ys.any fun z => PyData.eqv z x))) else .stuck
  | .isN, x, .none => .ok (.val (.bool (nonD x)))
  | .notN, x, .none => .ok (.val (.bool (!nonD x)))
  | .isB, .bool x, .bool y => .ok (.val (.bool (decide (x = y))))
  | .notB, .bool x, .bool y => .ok (.val (.bool (!decide (x = y))))
  | _, _, _ => .stuck
def ixD : D → D → M B
  | .list xs, .int i => match L2.atI xs i with | some d => .ok (.val d) | none => .stuck
  | .tuple xs, .int i => match L2.atI xs i with | some d => .ok (.val d) | none => .stuck
  | _, _ => .stuck
def cutD (xs : List D) (lo hi : Option Int) : List D := (xs.drop (HT.sIx xs.length 0 lo)).take (HT.sIx xs.length xs.length hi - HT.sIx xs.length 0 lo)
def partD : List D → M (Option Int)
  | [] => .ok none
  | [.int i] => .ok (some i)
  | _ => .stuck
def slD : D → Option Int → Option Int → M B
  | .list xs, lo, hi => .ok (.own (cutD xs lo hi))
  | .tuple xs, lo, hi => .ok (.val (.tuple (cutD xs lo hi)))
  | _, _, _ => .stuck
def intsD : List D → Option (List Int)
  | [] => some []
  | .int i :: r => (intsD r).map (i :: ·)
  | _ => none
def boolsD : List D → Option (List Bool)
  | [] => some []
  | .bool i :: r => (boolsD r).map (i :: ·)
  | _ => none
def minI : List Int → Int
  | [] => 0
  | [x] => x
  | x :: r => if minI r < x then minI r else x
def maxI : List Int → Int
  | [] => 0
  | [x] => x
  | x :: r => if x < maxI r then maxI r else x
def biD : Bi → List D → M B
  | .abs, [.int i] => .ok (.val (.int (if i < 0 then -i else i)))
  | .len, [.list xs] => .ok (.val (.int xs.length))
  | .len, [.tuple xs] => .ok (.val (.int xs.length))
  | .int, [.int i] => .ok (.val (.int i))
  | .int, [.bool b] => .ok (.val (.int (if b then 1 else 0)))
  | .list, [.list xs] => .ok (.own xs)
  | .list, [.tuple xs] => .ok (.own xs)
  | .tuple, [.list xs] => .ok (.val (.tuple xs))
  | .tuple, [.tuple xs] => .ok (.val (.tuple xs))
  | .sum, [.list xs] => match intsD xs with | some ns => .ok (.val (.int ns.sum)) | none => .stuck
  | .all, [.list xs] => match boolsD xs with | some bs => .ok (.val (.bool (bs.all id))) | none => .stuck
  | .min, [.list xs] => match intsD xs with | some (n :: ns) => .ok (.val (.int (minI (n :: ns)))) | _ => .stuck
  | .max, [.list xs] => match intsD xs with | some (n :: ns) => .ok (.val (.int (maxI (n :: ns)))) | _ => .stuck
  | .min, [.int i, .int j] => .ok (.val (.int (if j < i then j else i)))
  | .max, [.int i, .int j] => .ok (.val (.int (if j > i then j else i)))
  | _, _ => .stuck
def isiD : Ty → D → M B
  | .int, .int _ => .ok (.val (.bool true))
  | .int, .bool _ => .ok (.val (.bool true))
  | .bool, .bool _ => .ok (.val (.bool true))
  | .tuple, .tuple _ => .ok (.val (.bool true))
  | .list, .list _ => .ok (.val (.bool true))
  | .str, .str _ => .ok (.val (.bool true))
  | _, .dict _ => .stuck
  | _, _ => .ok (.val (.bool false))
def rngD (lo c : Int) : Nat → List D
  | 0 => []
  | n + 1 => .int lo :: rngD (lo + c) c n
def smallI (i : Int) : Bool := decide (-(2 ^ 62) ≤ i) && decide (i < 2 ^ 62)
def zipD : List D → List D → List D
  | x :: xs, y :: ys => .tuple [x, y] :: zipD xs ys
  | _, _ => []
def seqD : D → M (List D)
  | .list xs => .ok xs
  | .tuple xs => .ok xs
  | _ => .stuck
def itD : ItK → List D → M (List D)
  | .seq, [d] => seqD d
  | .rng, [.int n] => if smallI n then .ok (rngD 0 1 n.toNat) else .stuck
  | .rng, [.int i, .int j] => if smallI i && smallI j then .ok (rngD i 1 (j - i).toNat) else .stuck
  | .rng, [.int i, .int j, .int c] => if decide (0 < c) && decide (c < 2 ^ 29) && Builtin.Range.small i j c then .ok (rngD i c (Builtin.Range.rangeSize i j c).toNat) else .stuck
  | .zip, [.list xs, .list ys] => .ok (zipD xs ys)
  | .zip, [.tuple xs, .tuple ys] => .ok (zipD xs ys)
  | .rev, [d] => do let xs ← seqD d; .ok xs.reverse
  | _, _ => .stuck
mutual
def bindT : Tg → D → En → M En
  | .nm i, d, ρ => .ok (ρ.set i (some (.val d)))
  | .tp ts, .tuple ds, ρ => bindTs ts ds ρ
  | .tp ts, .list ds, ρ => bindTs ts ds ρ
  | .tp _, _, _ => .stuck
def bindTs : List Tg → List D → En → M En
  | [], [], ρ => .ok ρ
  | t :: ts, d :: ds, ρ => do let ρ1 ← bindT t d ρ; bindTs ts ds ρ1
  | _, _, _ => .stuck
end
def wipeN (ρ : En) : List Nat → En
  | [] => ρ
  | v :: vs => (wipeN ρ vs).set v none
abbrev Fs := Nat → List D → M B
def lookE : Option (Option B) → M B
  | some (some (.val d)) => .ok (.val d)
  | _ => .stuck
def lookB : Option (Option B) → M D
  | some (some b) => .ok b.d
  | _ => .stuck
def valM (r : M B) : M D := do let b ← r; .ok b.d
def bor (ρ : En) (e : E) (r : M B) : M D := match e with
  | .var i => lookB ρ[i]?
  | _ => valM r
def negD : D → M B
  | .int i => .ok (.val (.int (-i)))
  | _ => .stuck
def notD : D → M B
  | .bool b => .ok (.val (.bool (!b)))
  | _ => .stuck
def andD : D → M B → M B
  | .bool true, r => r
  | .bool false, _ => .ok (.val (.bool false))
  | _, _ => .stuck
def orD : D → M B → M B
  | .bool false, r => r
  | .bool true, _ => .ok (.val (.bool true))
  | _, _ => .stuck
def lcD (f : D → M (Option D)) : List D → M (List D)
  | [] => .ok []
  | d :: ds => match f d with
    | .ok (some x) => (match lcD f ds with | .ok r => .ok (x :: r) | _ => .stuck)
    | .ok none => lcD f ds
    | _ => .stuck
def turnD (cs : List D) (r : M B) : M (Option D) := match cs with
  | [] => do let b ← r; .ok (some b.d)
  | [.bool true] => do let b ← r; .ok (some b.d)
  | [.bool false] => .ok none
  | _ => .stuck
mutual
def evE (Φ : Fs) (ρ : En) : E → M B
  | .var i => lookE ρ[i]?
  | .con d => .ok (.val d)
  | .glob _ d => .ok (.val d)
  | .tup es => do let ds ← evL Φ ρ es; .ok (.val (.tuple ds))
  | .lst es => do let ds ← evL Φ ρ es; .ok (.own ds)
  | .rep es b => do let ds ← evL Φ ρ es; let y ← bor ρ b (evE Φ ρ b); repD ds y
  | .bop o a b => do let x ← bor ρ a (evE Φ ρ a); let y ← bor ρ b (evE Φ ρ b); bopD o x y
  | .neg a => do let x ← bor ρ a (evE Φ ρ a); negD x
  | .not a => do let x ← bor ρ a (evE Φ ρ a); notD x
  | .and a b => do let x ← bor ρ a (evE Φ ρ a); andD x (evE Φ ρ b)
  | .or a b => do let x ← bor ρ a (evE Φ ρ a); orD x (evE Φ ρ b)
  | .cmp o a b => do let x ← bor ρ a (evE Φ ρ a); let y ← bor ρ b (evE Φ ρ b); cmpD o x y
  | .ix a b => do let x ← bor ρ a (evE Φ ρ a); let y ← bor ρ b (evE Φ ρ b); ixD x y
  | .sl a lo hi => do
      let x ← bor ρ a (evE Φ ρ a); let l ← evL Φ ρ lo; let l' ← partD l
      let u ← evL Φ ρ hi; let u' ← partD u; slD x l' u'
  | .bi f es => do let ds ← evBs Φ ρ es; biD f ds
  | .isi a t => do let x ← bor ρ a (evE Φ ρ a); isiD t x
  | .call k es => do let ds ← evL Φ ρ es; Φ k ds
  | .lc e t k es c own => do
      let ds ← evBs Φ ρ es
      let xs ← itD k ds
      if lineOk xs.length then do
       let r ← lcD (fun d => do
        let ρ1 ← bindT t d (wipeN ρ own)
        let cs ← evBs Φ ρ1 c
        turnD cs (evE Φ ρ1 e)) xs
       .ok (.own r)
      else .stuck
def evL (Φ : Fs) (ρ : En) : List E → M (List D)
  | [] => .ok []
  | e :: es => do let b ← evE Φ ρ e; let ds ← evL Φ ρ es; .ok (b.d :: ds)
def evBs (Φ : Fs) (ρ : En) : List E → M (List D)
  | [] => .ok []
  | e :: es => do let b ← bor ρ e (evE Φ ρ e); let ds ← evBs Φ ρ es; .ok (b :: ds)
end
inductive S where
  | asg (t : Tg) (e : E)
  | set (i : Nat) (e : E)
  | put (i : Nat) (k e : E)
  | app (i : Nat) (e : E)
  | ite (c : E) (a b : List S)
  | for (t : Tg) (k : ItK) (es : List E) (body : List S)
  | whl (c : E) (body : List S)
  | ret (e : E)
  | cont
  | pass
  | frz (is : List Nat) (s : S)
  | raise (c : Nat)
  | bad
inductive Out where
  | nx (ρ : En) | rt (b : B) | ct (ρ : En)
def forD (f : D → En → M Out) : List D → En → M Out
  | [], ρ => .ok (.nx ρ)
  | d :: ds, ρ => match f d ρ with
    | .ok (.nx ρ1) => forD f ds ρ1
    | .ok (.ct ρ1) => forD f ds ρ1
    | o => o
def whlN (c : En → M D) (f : En → M Out) : Nat → En → M Out
  | 0, _ => .stuck
  | n + 1, ρ => match c ρ with
    | .ok (.bool true) => (match f ρ with
      | .ok (.nx ρ1) => whlN c f n ρ1
      | .ok (.ct ρ1) => whlN c f n ρ1
      | o => o)
    | .ok (.bool false) => .ok (.nx ρ)
    | .ex e => .ex e
    | _ => .stuck
open Classical in
noncomputable def whlD (c : En → M D) (f : En → M Out) (ρ : En) : M Out :=
  if h : ∃ n, whlN c f n ρ ≠ .stuck then whlN c f (choose h) ρ else .stuck
def frzE (ρ : En) : List Nat → En
  | [] => ρ
  | i :: is => match ρ[i]? with
    | some (some (.own ds)) => frzE (ρ.set i (some (.val (.list ds)))) is
    | _ => frzE ρ is
def setAt (xs : List D) (k : Int) (v : D) : M (List D) := match L2.ixN xs.length k with
  | some j => .ok (xs.set j v)
  | none => .stuck
def iteD (x : D) (a b : M Out) : M Out := match x with
  | .bool true => a
  | .bool false => b
  | _ => .stuck
def seqD' (r : M Out) (k : En → M Out) : M Out := match r with
  | .ok (.nx ρ) => k ρ
  | o => o
def putK (ρ : En) (i : Nat) (xs : List D) (d : D) (v : D) : M Out := match d with
  | .int n => do let ys ← setAt xs n v; .ok (.nx (ρ.set i (some (.own ys))))
  | _ => .stuck
def putD (ρ : En) (i : Nat) (o : Option (Option B)) (j : M D) (v : D) : M Out := match o with
  | some (some (.own xs)) => do let d ← j; putK ρ i xs d v
  | _ => .stuck
def appK (ρ : En) (i : Nat) (xs : List D) (v : D) : M Out := if lineOk xs.length then .ok (.nx (ρ.set i (some (.own (xs ++ [v]))))) else .stuck
def appD (ρ : En) (i : Nat) (o : Option (Option B)) (r : M B) : M Out := match o with
  | some (some (.own xs)) => do let b ← r; appK ρ i xs b.d
  | _ => .stuck
def retV : Option (Option B) → M Out
  | some (some b) => .ok (.rt b)
  | _ => .stuck
def retD (ρ : En) (e : E) (r : M B) : M Out := match e with
  | .var i => retV ρ[i]?
  | _ => do let b ← r; .ok (.rt b)
mutual
noncomputable def exS (Φ : Fs) : S → En → M Out
  | .asg t e, ρ => do let b ← evE Φ ρ e; let ρ1 ← bindT t b.d ρ; .ok (.nx ρ1)
  | .set i e, ρ => do let b ← evE Φ ρ e; .ok (.nx (ρ.set i (some b)))
  | .put i k e, ρ => do let b ← evE Φ ρ e; putD ρ i ρ[i]? (bor ρ k (evE Φ ρ k)) b.d
  | .app i e, ρ => appD ρ i ρ[i]? (evE Φ ρ e)
  | .ite c a b, ρ => do let x ← bor ρ c (evE Φ ρ c); iteD x (exL Φ a ρ) (exL Φ b ρ)
  | .for t k es body, ρ => do
      let ds ← evL Φ ρ es; let xs ← itD k ds
      forD (fun d ρ1 => do let ρ2 ← bindT t d ρ1; exL Φ body ρ2) xs ρ
  | .whl c body, ρ => whlD (fun ρ1 => bor ρ1 c (evE Φ ρ1 c)) (fun ρ1 => exL Φ body ρ1) ρ
  | .ret e, ρ => retD ρ e (evE Φ ρ e)
  | .cont, ρ => .ok (.ct ρ)
  | .pass, ρ => .ok (.nx ρ)
  | .frz is s, ρ => exS Φ s (frzE ρ is)
  | .raise c, _ => .ex c
  | .bad, _ => .stuck
noncomputable def exL (Φ : Fs) : List S → En → M Out
  | [], ρ => .ok (.nx ρ)
  | s :: ss, ρ => seqD' (exS Φ s ρ) (fun ρ1 => exL Φ ss ρ1)
end
def phi : List (List D → M B) → Fs
  | [], _, _ => .stuck
  | f :: _, 0, ds => f ds
  | _ :: r, k + 1, ds => phi r k ds
def endD : M Out → M B
  | .ok (.rt b) => .ok b
  | .ok (.nx _) => .ok (.val .none)
  | .ok (.ct _) => .stuck
  | .ex c => .ex c
  | .stuck => .stuck
def entry (n m : Nat) (ds : List D) : En := ds.map (fun d => some (.val d)) ++ List.replicate (m - n) none
noncomputable def runF (Φ : Fs) (n m : Nat) (body : List S) (ds : List D) : M B :=
  if ds.length = n then endD (exL Φ body (entry n m ds)) else .stuck
end Tg
namespace Tg
open PySem PySem.Spec PyProof.Rows L2
mutual
inductive Dq (K : PySem.W.Frag) (F : Hp) : V → D → Prop
  | non : Dq K F .non .none
  | bl (b : Bool) : Dq K F (.bl b) (.bool b)
  | int (i : Int) : Dq K F (.int i) (.int i)
  | str (x : Str) : Dq K F (.str x) (.str x)
  | lst {a : Addr} {xs : List V} {ds : List D} : SqL K F a xs → DqAll K F xs ds → Dq K F (.ref a) (.list ds)
  | tup {a : Addr} {xs : List V} {ds : List D} : SqT K F a xs → DqAll K F xs ds → Dq K F (.ref a) (.tuple ds)
inductive DqAll (K : PySem.W.Frag) (F : Hp) : List V → List D → Prop
  | nil : DqAll K F [] []
  | cons {v : V} {vs : List V} {d : D} {ds : List D} : Dq K F v d → DqAll K F vs ds → DqAll K F (v :: vs) (d :: ds)
end
section
variable {K : PySem.W.Frag} {F F' H H' : Hp}
theorem rd_mono {a : Addr} {u : HO} (s : Same F F') (h : Rd F a u) : Rd F' a u := by
  rcases h with h | ⟨o, h⟩
  · exact .inl (s _ _ h)
  · exact .inr ⟨o, s _ _ h⟩
theorem sql_mono {a : Addr} {xs : List V} (s : Same F F') (h : SqL K F a xs) : SqL K F' a xs := by
  rcases h with h | h
  · exact .inl (rd_mono s h)
  · exact .inr h
theorem sqt_mono {a : Addr} {xs : List V} (s : Same F F') (h : SqT K F a xs) : SqT K F' a xs := by
  rcases h with h | h
  · exact .inl (rd_mono s h)
  · exact .inr h
mutual
theorem Dq.mono (s : Same F F') : ∀ (d : D) (v : V), Dq K F v d → Dq K F' v d
  | .none, _, h => by cases h; exact .non
  | .bool b, _, h => by cases h; exact .bl b
  | .int i, _, h => by cases h; exact .int i
  | .str x, _, h => by cases h; exact .str x
  | .list ds, _, h => by
    cases h with
    | lst h1 h2 => exact .lst (sql_mono s h1) (DqAll.mono s ds _ h2)
  | .tuple ds, _, h => by
    cases h with
    | tup h1 h2 => exact .tup (sqt_mono s h1) (DqAll.mono s ds _ h2)
  | .dict _, _, h => by cases h
theorem DqAll.mono (s : Same F F') : ∀ (ds : List D) (vs : List V), DqAll K F vs ds → DqAll K F' vs ds
  | [], _, h => by cases h; exact .nil
  | d :: ds, _, h => by
    cases h with
    | cons h1 h2 => exact .cons (Dq.mono s d _ h1) (DqAll.mono s ds _ h2)
end
mutual
theorem Dq.dp : ∀ (d : D) (v : V), Dq K F v d → Dp K F v d
  | .none, _, h => by cases h; exact .non
  | .bool b, _, h => by cases h; exact .bl b
  | .int i, _, h => by cases h; exact .int i
  | .str x, _, h => by cases h; exact .str x
  | .list ds, _, h => by
    cases h with
    | lst h1 h2 => exact .lst h1 (DqAll.dp ds _ h2)
  | .tuple ds, _, h => by
    cases h with
    | tup h1 h2 => exact .tup h1 (DqAll.dp ds _ h2)
  | .dict _, _, h => by cases h
theorem DqAll.dp : ∀ (ds : List D) (vs : List V), DqAll K F vs ds → DpAll K F vs ds
  | [], _, h => by cases h; exact .nil
  | d :: ds, _, h => by
    cases h with
    | cons h1 h2 => exact .cons (Dq.dp d _ h1) (DqAll.dp ds _ h2)
end
theorem DqAll.length : ∀ {ds : List D} {vs : List V}, DqAll K F vs ds → vs.length = ds.length
  | [], _, h => by cases h; rfl
  | d :: ds, _, h => by
    cases h with
    | cons h1 h2 => rw [List.length_cons, List.length_cons, DqAll.length h2]
theorem DqAll.get : ∀ {ds : List D} {vs : List V} {i : Nat} {d : D}, DqAll K F vs ds → ds[i]? = some d → ∃ v, vs[i]? = some v ∧ Dq K F v d
  | [], _, _, _, _, e => by simp at e
  | d :: ds, _, 0, _, h, e => by
    cases h with
    | cons h1 h2 => simp at e; subst e; exact ⟨_, rfl, h1⟩
  | d :: ds, _, i + 1, x, h, e => by
    cases h with
    | cons h1 h2 =>
      obtain ⟨v, q1, q2⟩ := DqAll.get (i := i) (d := x) h2 (by simpa using e)
      exact ⟨v, by simpa using q1, q2⟩
theorem DqAll.app : ∀ {ds es : List D} {vs us : List V}, DqAll K F vs ds → DqAll K F us es → DqAll K F (vs ++ us) (ds ++ es)
  | [], _, _, _, h, g => by cases h; exact g
  | d :: ds, _, _, _, h, g => by
    cases h with
    | cons h1 h2 => exact .cons h1 (DqAll.app h2 g)
theorem DqAll.take : ∀ {ds : List D} {vs : List V} (n : Nat), DqAll K F vs ds → DqAll K F (vs.take n) (ds.take n)
  | _, _, 0, _ => by rw [List.take_zero, List.take_zero]; exact .nil
  | [], _, n + 1, h => by cases h; exact .nil
  | d :: ds, _, n + 1, h => by
    cases h with
    | cons h1 h2 => exact .cons h1 (DqAll.take n h2)
theorem DqAll.drop : ∀ {ds : List D} {vs : List V} (n : Nat), DqAll K F vs ds → DqAll K F (vs.drop n) (ds.drop n)
  | _, _, 0, h => h
  | [], _, n + 1, h => by cases h; exact .nil
  | d :: ds, _, n + 1, h => by
    cases h with
    | cons h1 h2 => exact DqAll.drop n h2
theorem DqAll.rep {ds : List D} {vs : List V} (h : DqAll K F vs ds) : ∀ k : Nat, DqAll K F (List.replicate k vs).flatten (List.replicate k ds).flatten
  | 0 => .nil
  | k + 1 => by
    rw [List.replicate_succ, List.replicate_succ, List.flatten_cons, List.flatten_cons]
    exact h.app (h.rep k)
theorem DqAll.rev : ∀ {ds : List D} {vs : List V}, DqAll K F vs ds → DqAll K F vs.reverse ds.reverse
  | [], _, h => by cases h; exact .nil
  | d :: ds, _, h => by
    cases h with
    | cons h1 h2 =>
      rw [List.reverse_cons, List.reverse_cons]
      exact (DqAll.rev h2).app (.cons h1 .nil)
theorem DqAll.set : ∀ {ds : List D} {vs : List V} (i : Nat) {v : V} {d : D}, DqAll K F vs ds → Dq K F v d → DqAll K F (vs.set i v) (ds.set i d)
  | [], _, _, _, _, h, _ => by cases h; exact .nil
  | d :: ds, _, 0, _, _, h, g => by
    cases h with
    | cons h1 h2 => exact .cons g h2
  | d :: ds, _, i + 1, _, _, h, g => by
    cases h with
    | cons h1 h2 => exact .cons h1 (DqAll.set i h2 g)
theorem DqAll.ints : ∀ {ds : List D} {vs : List V} {ns : List Int}, DqAll K F vs ds → intsD ds = some ns → vs = ns.map V.int
  | [], _, _, h, e => by cases h; simp [intsD] at e; subst e; rfl
  | d :: ds, _, ns, h, e => by
    cases h with
    | cons h1 h2 =>
      cases h1 <;> simp only [intsD] at e <;> try (cases e)
      rename_i i
      cases q : intsD ds with
      | none => rw [q] at e; cases e
      | some m =>
        rw [q] at e
        simp only [Option.map_some, Option.some.injEq] at e
        subst e
        rw [List.map_cons, DqAll.ints h2 q]
theorem DqAll.bools : ∀ {ds : List D} {vs : List V} {ns : List Bool}, DqAll K F vs ds → boolsD ds = some ns → vs = ns.map V.bl
  | [], _, _, h, e => by cases h; simp [boolsD] at e; subst e; rfl
  | d :: ds, _, ns, h, e => by
    cases h with
    | cons h1 h2 =>
      cases h1 <;> simp only [boolsD] at e <;> try (cases e)
      rename_i i
      cases q : boolsD ds with
      | none => rw [q] at e; cases e
      | some m =>
        rw [q] at e
        simp only [Option.map_some, Option.some.injEq] at e
        subst e
        rw [List.map_cons, DqAll.bools h2 q]
theorem dq_ints : ∀ (ns : List Int), DqAll K F (ns.map V.int) (ns.map PyData.int)
  | [] => .nil
  | n :: ns => .cons (.int n) (dq_ints ns)
end
structure Gr (H F H' F' : Hp) : Prop where
  h : Same H H'
  f : Same F F'
  s : Same F' H'
  n : ∀ a, H a ≠ none → F a = none → F' a = none
theorem Gr.refl {H F : Hp} (s : Same F H) : Gr H F H F := ⟨.refl _, .refl _, s, fun _ _ h => h⟩
theorem Gr.trans {H F H1 F1 H2 F2 : Hp} (a : Gr H F H1 F1) (b : Gr H1 F1 H2 F2) : Gr H F H2 F2 :=
  ⟨a.h.trans b.h, a.f.trans b.f, b.s, fun x h1 h2 => b.n x (fun z => h1 (a.h.free z)) (a.n x h1 h2)⟩
theorem Gr.lay {H F : Hp} (s : Same F H) {p : Addr} {o : HO} (n : H p = none) : Gr H F (upd H p o) (upd F p o) := by
  have np : F p = none := s.free n
  refine ⟨same_upd' n, same_upd' np, fun b x e => ?_, fun a h1 h2 => ?_⟩
  · by_cases hb : b = p
    · subst hb; rw [upd_same] at e ⊢; exact e
    · rw [upd_ne hb] at e ⊢; exact s _ _ e
  · rw [upd_ne (fun z => h1 (by rw [z]; exact n))]; exact h2
where
  same_upd' {H : Hp} {p : Addr} {o : HO} (h : H p = none) : Same H (upd H p o) := fun b x e => by
    rw [upd_ne (ne_of_none e h)]; exact e
theorem same_new {H : Hp} {p : Addr} {o : HO} (h : H p = none) : Same H (upd H p o) := Gr.lay.same_upd' h
theorem Gr.mine {H F : Hp} (s : Same F H) {p : Addr} {o : HO} (n : H p = none) : Gr H F (upd H p o) F :=
  ⟨same_new n, .refl _, s.trans (same_new n), fun _ _ h => h⟩
theorem Gr.freeze {H F H' F' : Hp} (g : Gr H F H' F') {l : Addr} {o : HO} (e : H' l = some o) (n : H l = none) : Gr H F H' (upd F' l o) := by
  refine ⟨g.h, fun b x q => ?_, fun b x q => ?_, fun a h1 h2 => ?_⟩
  · by_cases hb : b = l
    · subst hb
      have q2 := g.s _ _ (g.f _ _ q)
      rw [e] at q2; rw [upd_same]; exact q2
    · rw [upd_ne hb]; exact g.f _ _ q
  · by_cases hb : b = l
    · subst hb; rw [upd_same] at q; rw [e]; exact q
    · rw [upd_ne hb] at q; exact g.s _ _ q
  · have ne : a ≠ l := fun z => h1 (by rw [z]; exact n)
    rw [upd_ne ne]; exact g.n a h1 h2
def RepB (K : PySem.W.Frag) (H F : Hp) : B → V → Prop
  | .val d, v => Dq K F v d
  | .own ds, v => ∃ l vs, v = .ref l ∧ H l = some (.lst vs) ∧ F l = none ∧ DqAll K F vs ds
def NewB (H : Hp) : B → V → Prop
  | .val _, _ => True
  | .own _, v => ∃ l, v = .ref l ∧ H l = none
def RB (K : PySem.W.Frag) (H F : Hp) (d : D) (v : V) : Prop := Dq K F v d ∨ ∃ l vs ds, v = .ref l ∧ d = .list ds ∧ H l = some (.lst vs) ∧ DqAll K F vs ds
section
variable {K : PySem.W.Frag} {F F' H H' F0 H0 : Hp} {b : B} {v : V} {d : D}
theorem RepB.rb (h : RepB K H F b v) : RB K H F b.d v := by
  cases b with
  | val d => exact .inl h
  | own ds => obtain ⟨l, vs, e, h1, _, h3⟩ := h; exact .inr ⟨l, vs, ds, e, rfl, h1, h3⟩
theorem RB.mono (g : Gr H F H' F') (h : RB K H F d v) : RB K H' F' d v := by
  rcases h with h | ⟨l, vs, ds, e, e2, h1, h3⟩
  · exact .inl (Dq.mono g.f _ _ h)
  · exact .inr ⟨l, vs, ds, e, e2, g.h _ _ h1, DqAll.mono g.f _ _ h3⟩
theorem RB.dp (s : Same F H) (h : RB K H F d v) : Dp K H v d := by
  rcases h with h | ⟨l, vs, ds, rfl, rfl, h1, h3⟩
  · exact Dq.dp _ _ (Dq.mono s _ _ h)
  · exact .lst (.inl (.inl h1)) (DqAll.dp _ _ (DqAll.mono s _ _ h3))
theorem RepB.freeze (g : Gr H0 F0 H F) (h : RepB K H F b v) (n : NewB H0 b v) : ∃ F', Gr H0 F0 H F' ∧ Dq K F' v b.d := by
  cases b with
  | val d => exact ⟨F, g, h⟩
  | own ds =>
    obtain ⟨l, vs, rfl, h1, h2, h3⟩ := h
    obtain ⟨l', e, n⟩ := n
    cases e
    refine ⟨upd F l (.lst vs), g.freeze h1 n, .lst (.of upd_same) (DqAll.mono (same_new h2) _ _ h3)⟩
theorem RB.list {ds : List D} (s : Same F H) (h : RB K H F (.list ds) v) : ∃ l vs, v = .ref l ∧ SqL K H l vs ∧ DqAll K F vs ds := by
  rcases h with h | ⟨l, vs, ds', rfl, e, h1, h3⟩
  · cases h with
    | lst h1 h2 => exact ⟨_, _, rfl, sql_mono s h1, h2⟩
  · cases e; exact ⟨_, _, rfl, .of h1, h3⟩
theorem RB.tuple {ds : List D} (s : Same F H) (h : RB K H F (.tuple ds) v) : ∃ l vs, v = .ref l ∧ SqT K F l vs ∧ DqAll K F vs ds := by
  rcases h with h | ⟨l, vs, ds', rfl, e, h1, h3⟩
  · cases h with
    | tup h1 h2 => exact ⟨_, _, rfl, h1, h2⟩
  · cases e
theorem RB.int {i : Int} (h : RB K H F (.int i) v) : v = .int i := by
  rcases h with h | ⟨l, vs, ds', rfl, e, h1, h3⟩
  · cases h; rfl
  · cases e
theorem RB.bool {i : Bool} (h : RB K H F (.bool i) v) : v = .bl i := by
  rcases h with h | ⟨l, vs, ds', rfl, e, h1, h3⟩
  · cases h; rfl
  · cases e
theorem RB.none (h : RB K H F .none v) : v = .non := by
  rcases h with h | ⟨l, vs, ds', rfl, e, h1, h3⟩
  · cases h; rfl
  · cases e
end
structure StR (K : PySem.W.Frag) (H0 F0 : Hp) (σ : L2.St) (H F : Hp) (ρ : En) : Prop where
  gr : Gr H0 F0 H F
  len : σ.length = ρ.length
  val : ∀ (i : Nat) (d : D), ρ[i]? = some (some (.val d)) → ∃ v, σ[i]? = some (some v) ∧ Dq K F v d
  own : ∀ (i : Nat) (ds : List D), ρ[i]? = some (some (.own ds)) → ∃ l vs, σ[i]? = some (some (.ref l)) ∧ H l = some (.lst vs) ∧ F l = none ∧ H0 l = none ∧ DqAll K F vs ds
  sep : ∀ (i j : Nat) (ds ds' : List D) (l : Addr), i ≠ j → ρ[i]? = some (some (.own ds)) → ρ[j]? = some (some (.own ds')) → σ[i]? = some (some (.ref l)) → σ[j]? = some (some (.ref l)) → False
section
variable {K : PySem.W.Frag} {F F' H H' F0 H0 : Hp} {σ : L2.St} {ρ : En}
theorem StR.grow (R : StR K H0 F0 σ H F ρ) (g : Gr H F H' F') : StR K H0 F0 σ H' F' ρ where
  gr := R.gr.trans g
  len := R.len
  val := fun i d e => let ⟨v, h1, h2⟩ := R.val i d e; ⟨v, h1, Dq.mono g.f _ _ h2⟩
  own := fun i ds e => by
    obtain ⟨l, vs, h1, h2, h3, h4, h5⟩ := R.own i ds e
    exact ⟨l, vs, h1, g.h _ _ h2, g.n l (by rw [h2]; exact fun z => nomatch z) h3, h4, DqAll.mono g.f _ _ h5⟩
  sep := R.sep
theorem StR.s (R : StR K H0 F0 σ H F ρ) : Same F H := R.gr.s
theorem StR.setV (R : StR K H0 F0 σ H F ρ) (i : Nat) {v : V} {d : D} (h : Dq K F v d) : StR K H0 F0 (σ.set i (some v)) H F (ρ.set i (some (.val d))) where
  gr := R.gr
  len := by rw [List.length_set, List.length_set, R.len]
  val := fun j d' e => by
    by_cases hj : i = j
    · subst hj
      have hl : i < ρ.length := by
        have := (List.getElem?_eq_some_iff.mp e).1
        rwa [List.length_set] at this
      rw [List.getElem?_set_self hl] at e
      cases e
      exact ⟨v, List.getElem?_set_self (by rw [R.len]; exact hl), h⟩
    · rw [List.getElem?_set_ne hj] at e ⊢
      exact R.val j d' e
  own := fun j ds e => by
    by_cases hj : i = j
    · subst hj
      have hl : i < ρ.length := by
        have := (List.getElem?_eq_some_iff.mp e).1
        rwa [List.length_set] at this
      rw [List.getElem?_set_self hl] at e
      cases e
    · rw [List.getElem?_set_ne hj] at e ⊢
      exact R.own j ds e
  sep := fun j k ds ds' l ne e1 e2 e3 e4 => by
    have hj : i ≠ j := fun z => by
      subst z
      have hl : i < ρ.length := by
        have := (List.getElem?_eq_some_iff.mp e1).1
        rwa [List.length_set] at this
      rw [List.getElem?_set_self hl] at e1; cases e1
    have hk : i ≠ k := fun z => by
      subst z
      have hl : i < ρ.length := by
        have := (List.getElem?_eq_some_iff.mp e2).1
        rwa [List.length_set] at this
      rw [List.getElem?_set_self hl] at e2; cases e2
    rw [List.getElem?_set_ne hj] at e1 e3
    rw [List.getElem?_set_ne hk] at e2 e4
    exact R.sep j k ds ds' l ne e1 e2 e3 e4
theorem StR.wipe1 (R : StR K H0 F0 σ H F ρ) (i : Nat) : StR K H0 F0 (σ.set i none) H F (ρ.set i none) where
  gr := R.gr
  len := by rw [List.length_set, List.length_set, R.len]
  val := fun j d' e => by
    by_cases hj : i = j
    · subst hj
      have hl : i < ρ.length := by
        have := (List.getElem?_eq_some_iff.mp e).1
        rwa [List.length_set] at this
      rw [List.getElem?_set_self hl] at e
      cases e
    · rw [List.getElem?_set_ne hj] at e ⊢
      exact R.val j d' e
  own := fun j ds e => by
    by_cases hj : i = j
    · subst hj
      have hl : i < ρ.length := by
        have := (List.getElem?_eq_some_iff.mp e).1
        rwa [List.length_set] at this
      rw [List.getElem?_set_self hl] at e
      cases e
    · rw [List.getElem?_set_ne hj] at e ⊢
      exact R.own j ds e
  sep := fun j k ds ds' l ne e1 e2 e3 e4 => by
    have hj : i ≠ j := fun z => by
      subst z
      have hl : i < ρ.length := by
        have := (List.getElem?_eq_some_iff.mp e1).1
        rwa [List.length_set] at this
      rw [List.getElem?_set_self hl] at e1; cases e1
    have hk : i ≠ k := fun z => by
      subst z
      have hl : i < ρ.length := by
        have := (List.getElem?_eq_some_iff.mp e2).1
        rwa [List.length_set] at this
      rw [List.getElem?_set_self hl] at e2; cases e2
    rw [List.getElem?_set_ne hj] at e1 e3
    rw [List.getElem?_set_ne hk] at e2 e4
    exact R.sep j k ds ds' l ne e1 e2 e3 e4
theorem StR.wipe (R : StR K H0 F0 σ H F ρ) : ∀ vs : List Nat, StR K H0 F0 (L2.wipe σ vs) H F (wipeN ρ vs)
  | [] => R
  | v :: vs => (R.wipe vs).wipe1 v
end
abbrev Wx := Nat → L2.St → Hp → Prop
section
variable (K : PySem.W.Frag) (w : Wx) (σ : L2.St) (H F : Hp)
def AfE (r : M B) (Q : VK) : Prop := match r with
  | .ok b => ∀ v H' F', Gr H F H' F' → RepB K H' F' b v → NewB H b v → Q v H'
  | .ex c => ∀ H' F', Gr H F H' F' → w c σ H'
  | .stuck => False
def AfB (r : M D) (Q : VK) : Prop := match r with
  | .ok d => ∀ v H' F', Gr H F H' F' → RB K H' F' d v → Q v H'
  | .ex c => ∀ H' F', Gr H F H' F' → w c σ H'
  | .stuck => False
def AfL (r : M (List D)) (Q : List V → Hp → Prop) : Prop := match r with
  | .ok ds => ∀ vs H' F', Gr H F H' F' → DqAll K F' vs ds → Q vs H'
  | .ex c => ∀ H' F', Gr H F H' F' → w c σ H'
  | .stuck => False
inductive RBs (K : PySem.W.Frag) (H F : Hp) : List V → List D → Prop
  | nil : RBs K H F [] []
  | cons {v : V} {vs : List V} {d : D} {ds : List D} : RB K H F d v → RBs K H F vs ds → RBs K H F (v :: vs) (d :: ds)
def AfBs (r : M (List D)) (Q : List V → Hp → Prop) : Prop := match r with
  | .ok ds => ∀ vs H' F', Gr H F H' F' → RBs K H' F' vs ds → Q vs H'
  | .ex c => ∀ H' F', Gr H F H' F' → w c σ H'
  | .stuck => False
end
theorem RBs.mono {K : PySem.W.Frag} {H F H' F' : Hp} (g : Gr H F H' F') : ∀ {ds : List D} {vs : List V}, RBs K H F vs ds → RBs K H' F' vs ds
  | _, _, .nil => .nil
  | _, _, .cons h1 h2 => .cons (h1.mono g) (RBs.mono g h2)
def tE (K : PySem.W.Frag) (w : Wx) (Φ : Fs) (m : E) : TE := fun σ H Q => ∃ H0 F0 F ρ, StR K H0 F0 σ H F ρ ∧ AfE K w σ H F (evE Φ ρ m) Q
def tB (K : PySem.W.Frag) (w : Wx) (Φ : Fs) (m : E) : TE := fun σ H Q => ∃ H0 F0 F ρ, StR K H0 F0 σ H F ρ ∧ AfB K w σ H F (bor ρ m (evE Φ ρ m)) Q
def tL (K : PySem.W.Frag) (w : Wx) (Φ : Fs) (ms : List E) : TA := fun σ H Q => ∃ H0 F0 F ρ, StR K H0 F0 σ H F ρ ∧ AfL K w σ H F (evL Φ ρ ms) Q
def tBs (K : PySem.W.Frag) (w : Wx) (Φ : Fs) (ms : List E) : TA := fun σ H Q => ∃ H0 F0 F ρ, StR K H0 F0 σ H F ρ ∧ AfBs K w σ H F (evBs Φ ρ ms) Q
theorem pe_weak {X : Cx} {e : Expr} {t t' : TE} (h : PE X e t) (hw : ∀ σ H Q, t' σ H Q → t σ H Q) : PE X e t' := ⟨fun pins s σ H Q I q => h.run pins s σ H Q I (hw σ H Q q)⟩
theorem pa_weak {X : Cx} {e : List Expr} {t t' : TA} (h : PA X e t) (hw : ∀ σ H Q, t' σ H Q → t σ H Q) : PA X e t' := ⟨fun pos pins s σ H Q I q => h.run pos pins s σ H Q I (hw σ H Q q)⟩
def AfV (K : PySem.W.Frag) (H F : Hp) (r : M B) (Q : VK) : Prop := match r with
  | .ok b => ∀ v H' F', Gr H F H' F' → RepB K H' F' b v → NewB H b v → Q v H'
  | _ => False
def r2 (K : PySem.W.Frag) (f : D → D → M B) : R2 := fun x y H Q => ∃ F dx dy, Same F H ∧ RB K H F dx x ∧ RB K H F dy y ∧ AfV K H F (f dx dy) Q
def r1 (K : PySem.W.Frag) (f : D → M B) : V → Hp → VK → Prop := fun x H Q => ∃ F dx, Same F H ∧ RB K H F dx x ∧ AfV K H F (f dx) Q
def rn (K : PySem.W.Frag) (f : List D → M B) : List V → Hp → VK → Prop := fun xs H Q => ∃ F ds, Same F H ∧ RBs K H F xs ds ∧ AfV K H F (f ds) Q
theorem AfV.flat {K : PySem.W.Frag} {H F : Hp} {Q : VK} (s : Same F H) {d : D} {v : V} (h : AfV K H F (.ok (.val d)) Q) (r : Dq K F v d) : Q v H := h v H F (.refl s) r trivial
end Tg
namespace Tg
open PySem PySem.Spec PyProof.Rows L2
section
variable {K : PySem.W.Frag} {F F' H H' F0 H0 : Hp} {Q : VK} {v : V} {d : D} {ds : List D} {vs : List V}
theorem AfV.new (h : AfV K H F (.ok (.own ds)) Q) (s : Same F H) (r : DqAll K F vs ds) : ∀ p, H p = none → Q (.ref p) (upd H p (.lst vs)) := fun p hp =>
  h (.ref p) _ F (.mine s hp) ⟨p, vs, rfl, upd_same, s.free hp, r⟩ ⟨p, rfl, hp⟩
theorem AfV.newT (h : AfV K H F (.ok (.val (.tuple ds))) Q) (s : Same F H) (r : DqAll K F vs ds) : ∀ p, H p = none → Q (.ref p) (upd H p (.tup vs)) := fun p hp =>
  h (.ref p) _ _ (.lay s hp) (.tup (.of upd_same) (DqAll.mono (same_new (s.free hp)) _ _ r)) trivial
theorem line_ok {n : Nat} (h : lineOk n = true) : n < sizeLine := by
  have h1 := of_decide_eq_true h
  rw [sizeLine_eq]; omega
theorem at_all {i : Int} {d : D} (r : DqAll K F vs ds) (h : atI ds i = some d) : ∃ v, atI vs i = some v ∧ Dq K F v d := by
  unfold atI at h ⊢
  rw [r.length]
  cases q : ixN ds.length i with
  | none => rw [q] at h; cases h
  | some j =>
    rw [q] at h
    exact r.get (i := j) h
theorem cut_all (r : DqAll K F vs ds) (lo hi : Option Int) : DqAll K F (cutV vs lo hi) (cutD ds lo hi) := by
  unfold cutV cutD
  rw [r.length]
  exact (r.drop _).take _
end
section
variable {X : Cx}
theorem op_fdivG : OpR X (binaryOp .FloorDiv) (rI (fun i j => divOk i j = true) fun i j => .int (i.fdiv j)) := opI fun i j _ _ _ _ _ hc q => by
  unfold divOk at hc
  rw [Bool.and_eq_true] at hc
  exact floordiv_int (by simpa using hc.1) q (.inl (by simpa using hc.2))
theorem cat_sq {pins : List (Addr × Obj)} {s : Shared} {σ : L2.St} {H : Hp} {l b : Addr} {xs zs : List V} {Q : VK} (I : Inv X pins σ H s) (hH : SqL X.K H l xs) (hB : SqL X.K H b zs) (hz : xs.length + zs.length ≤ sizeLine)
    (q : ∀ p, H p = none → Q (.ref p) (upd H p (.lst (xs ++ zs)))) : wpAny (model X.prog X.w) X.A (binaryOp .Add (.ref l) (.ref b)) (EP X pins σ Q) X.xe s := by
  obtain ⟨its, r, ⟨⟨cls, dd, data, sl⟩, n, e, hc, hd, hs⟩, z1⟩ := I.list hH
  obtain ⟨its2, r2, ⟨⟨cls2, dd2, data2, sl2⟩, n2, e2, hc2, hd2, hs2⟩, z2⟩ := I.list hB
  simp only at hc hd hs hc2 hd2 hs2
  subst hc hd hs hc2 hd2 hs2
  have l1 := r.length
  have l2 := r2.length
  refine PySem.concat_meets ⟨_, e, rfl⟩ ⟨_, e2, rfl⟩ PySem.noFill_list_add PySem.seq_list_add PySem.F.slot_list_add PySem.F.entry_list_add (PySem.F.args_list_add_2 _ _)
    (list_addW l b its.toArray its2.toArray n n2 none none sl sl2 (by rw [List.size_toArray, List.size_toArray]; omega)) ⟨e, e2, ?_⟩
  rw [show its.toArray ++ its2.toArray = (its ++ its2).toArray by simp]
  exact ⟨.ref _, _, I.lnew (t' := s.toks) (r.append r2) (by rw [List.length_append]; exact hz), rfl, q _ I.fresh⟩
def BOp.op : BOp → Operator
  | .add => .Add | .sub => .Sub | .mul => .Mult | .fdiv => .FloorDiv | .mod => .Mod | .pow => .Pow
theorem op_bop (o : BOp) : OpR X (binaryOp o.op) (r2 X.K (bopD o)) := by
  intro pins s σ H x y v u Q I rx ry h
  obtain ⟨F, dx, dy, sm, hx, hy, h⟩ := h
  unfold bopD at h
  split at h
  · obtain rfl := hx.int; obtain rfl := hy.int
    exact op_add pins s σ H _ _ v u Q I rx ry ⟨_, _, rfl, rfl, h.flat sm (.int _)⟩
  · obtain ⟨l, vs, rfl, h1, h2⟩ := hx.list sm
    obtain ⟨l', vs', rfl, h1', h2'⟩ := hy.list sm
    split at h
    · rename_i hl
      have hl := line_ok hl
      cases rx; cases ry
      exact cat_sq I h1 h1' (by rw [h2.length, h2'.length]; omega) (h.new sm (h2.app h2'))
    · exact h.elim
  · obtain ⟨l, vs, rfl, h1, h2⟩ := hx.tuple sm
    obtain ⟨l', vs', rfl, h1', h2'⟩ := hy.tuple sm
    split at h
    · rename_i xs ys hl
      have hl := line_ok hl
      have e1 := h2.length
      have e2 := h2'.length
      refine op_catA pins s σ H _ _ v u Q I rx ry ⟨l, l', vs, vs', rfl, rfl, sqt_mono sm h1, sqt_mono sm h1', by omega, fun e => ?_, fun ne e => ?_, fun _ _ => h.newT sm (h2.app h2')⟩
      · subst e
        cases h2
        exact h.flat sm (.tup h1' h2')
      · subst e
        cases h2'
        rw [List.append_nil] at h
        exact h.flat sm (.tup h1 h2)
    · exact h.elim
  · obtain rfl := hx.int; obtain rfl := hy.int
    exact op_sub pins s σ H _ _ v u Q I rx ry ⟨_, _, rfl, rfl, h.flat sm (.int _)⟩
  · obtain rfl := hx.int; obtain rfl := hy.int
    split at h
    · rename_i hm
      exact op_mulW pins s σ H _ _ v u Q I rx ry ⟨_, _, rfl, rfl, (of_decide_eq_true (p := _ < _) hm), h.flat sm (.int _)⟩
    · exact h.elim
  · obtain rfl := hx.int; obtain rfl := hy.int
    split at h
    · rename_i hm
      exact op_fdivG pins s σ H _ _ v u Q I rx ry ⟨_, _, rfl, rfl, hm, h.flat sm (.int _)⟩
    · exact h.elim
  · obtain rfl := hx.int; obtain rfl := hy.int
    split at h
    · rename_i hm
      exact op_modN pins s σ H _ _ v u Q I rx ry ⟨_, _, rfl, rfl, by simpa using hm, h.flat sm (.int _)⟩
    · exact h.elim
  · obtain rfl := hx.int; obtain rfl := hy.int
    split at h
    · rename_i hm
      rw [Bool.and_eq_true, Bool.and_eq_true] at hm
      exact op_pow pins s σ H _ _ v u Q I rx ry ⟨_, _, rfl, rfl, ⟨of_decide_eq_true hm.1.1, of_decide_eq_true hm.1.2, of_decide_eq_true hm.2⟩, h.flat sm (.int _)⟩
    · exact h.elim
  · exact h.elim
theorem op_repD : OpR X (binaryOp .Mult) (fun x y H Q => ∃ F l vs ds dy, Same F H ∧ x = .ref l ∧ H l = some (.lst vs) ∧ DqAll X.K F vs ds ∧ RB X.K H F dy y ∧ AfV X.K H F (repD ds dy) Q) := by
  intro pins s σ H x y v u Q I rx ry h
  obtain ⟨F, l, vs, ds, dy, sm, rfl, hl, hv, hy, h⟩ := h
  unfold repD at h
  split at h
  · obtain rfl := hy.int
    split at h
    · rename_i hm
      rw [Bool.and_eq_true, Bool.and_eq_true] at hm
      have h1 := of_decide_eq_true hm.1.1
      have h2 := of_decide_eq_true hm.1.2
      have h3 := line_ok hm.2
      exact op_rep pins s σ H _ _ v u Q I rx ry ⟨l, _, vs, rfl, rfl, hl, by omega, by omega, by rw [hv.length]; omega, h.new sm (hv.rep _)⟩
    · exact h.elim
  · exact h.elim
def COp.op : COp → CmpOp
  | .lt => .Lt | .le => .LtE | .gt => .Gt | .ge => .GtE | .eq => .Eq | .ne => .NotEq | .isIn => .In | .notIn => .NotIn | .isN => .Is | .notN => .IsNot | .isB => .Is | .notB => .IsNot
theorem RB.non_iff {K : PySem.W.Frag} {H F : Hp} {d : D} {v : V} (h : RB K H F d v) : decide (v = .non) = nonD d := by
  rcases h with h | ⟨l, vs, ds', rfl, rfl, h1, h3⟩
  · cases h <;> rfl
  · rfl
theorem op_cmp (hu : X.A.units + 65 < cLine) (o : COp) : OpR X (compareOp o.op) (r2 X.K (cmpD o)) := by
  intro pins s σ H x y v u Q I rx ry h
  obtain ⟨F, dx, dy, sm, hx, hy, h⟩ := h
  unfold cmpD at h
  split at h
  · obtain rfl := hx.int; obtain rfl := hy.int
    exact op_lt pins s σ H _ _ v u Q I rx ry ⟨_, _, rfl, rfl, h.flat sm (.bl _)⟩
  · obtain rfl := hx.int; obtain rfl := hy.int
    exact op_le pins s σ H _ _ v u Q I rx ry ⟨_, _, rfl, rfl, h.flat sm (.bl _)⟩
  · obtain rfl := hx.int; obtain rfl := hy.int
    exact op_gt pins s σ H _ _ v u Q I rx ry ⟨_, _, rfl, rfl, h.flat sm (.bl _)⟩
  · obtain rfl := hx.int; obtain rfl := hy.int
    exact op_ge pins s σ H _ _ v u Q I rx ry ⟨_, _, rfl, rfl, h.flat sm (.bl _)⟩
  · split at h
    · rename_i he
      unfold eqOk at he
      rw [Bool.and_eq_true] at he
      exact op_eqD (by omega) pins s σ H _ _ v u Q I rx ry ⟨_, _, hx.dp sm, hy.dp sm, he.1, he.2, h.flat sm (.bl _)⟩
    · exact h.elim
  · split at h
    · rename_i he
      unfold eqOk at he
      rw [Bool.and_eq_true] at he
      exact op_neD (by omega) pins s σ H _ _ v u Q I rx ry ⟨_, _, hx.dp sm, hy.dp sm, he.1, he.2, h.flat sm (.bl _)⟩
    · exact h.elim
  · split at h
    · rename_i he
      unfold eqOk at he
      rw [Bool.and_eq_true] at he
      exact op_inD hu pins s σ H _ _ v u Q I rx ry ⟨_, _, hx.dp sm, hy.dp sm, he.1, he.2, h.flat sm (.bl _)⟩
    · exact h.elim
  · split at h
    · rename_i he
      unfold eqOk at he
      rw [Bool.and_eq_true] at he
      exact op_notInD hu pins s σ H _ _ v u Q I rx ry ⟨_, _, hx.dp sm, hy.dp sm, he.1, he.2, h.flat sm (.bl _)⟩
    · exact h.elim
  · obtain rfl := hy.none
    refine op_isN pins s σ H _ _ v u Q I rx ry ⟨rfl, ?_⟩
    rw [hx.non_iff]
    exact h.flat sm (.bl _)
  · obtain rfl := hy.none
    refine op_notN pins s σ H _ _ v u Q I rx ry ⟨rfl, ?_⟩
    rw [hx.non_iff]
    exact h.flat sm (.bl _)
  · obtain rfl := hx.bool; obtain rfl := hy.bool
    exact op_isBl pins s σ H _ _ v u Q I rx ry ⟨_, _, rfl, rfl, h.flat sm (.bl _)⟩
  · obtain rfl := hx.bool; obtain rfl := hy.bool
    exact op_notBl pins s σ H _ _ v u Q I rx ry ⟨_, _, rfl, rfl, h.flat sm (.bl _)⟩
  · exact h.elim
theorem ix_all : IxR X (r2 X.K ixD) := by
  intro value slice pins s σ H x y v u Q I rx ry h hs
  obtain ⟨F, dx, dy, sm, hx, hy, h⟩ := h
  unfold ixD at h
  split at h
  · obtain ⟨l, vs, rfl, h1, h2⟩ := hx.list sm
    obtain rfl := hy.int
    split at h
    · rename_i hat
      obtain ⟨z, e, hz⟩ := at_all h2 hat
      exact ix_list value slice pins s σ H _ _ v u Q I rx ry ⟨l, vs, _, z, rfl, rfl, h1, e, h.flat sm hz⟩ hs
    · exact h.elim
  · obtain ⟨l, vs, rfl, h1, h2⟩ := hx.tuple sm
    obtain rfl := hy.int
    split at h
    · rename_i hat
      obtain ⟨z, e, hz⟩ := at_all h2 hat
      exact ix_tup value slice pins s σ H _ _ v u Q I rx ry ⟨l, vs, _, z, rfl, rfl, sqt_mono sm h1, e, h.flat sm hz⟩ hs
    · exact h.elim
  · exact h.elim
def rS (K : PySem.W.Frag) : V → Option Int → Option Int → Hp → VK → Prop := fun x lo hi H Q => ∃ F dx, Same F H ∧ RB K H F dx x ∧ AfV K H F (slD dx lo hi) Q
theorem cut_whole {α : Type} {xs : List α} {lo hi : Option Int} (h : HT.sIx xs.length 0 lo = 0 ∧ HT.sIx xs.length xs.length hi = xs.length) : (xs.drop (HT.sIx xs.length 0 lo)).take (HT.sIx xs.length xs.length hi - HT.sIx xs.length 0 lo) = xs := by
  rw [h.1, h.2, List.drop_zero, Nat.sub_zero, List.take_length]
theorem sl_all : SlR X (rS X.K) := by
  intro pins s σ H x v vl vu lo hi sl Q I rx hs pl pu h
  obtain ⟨F, dx, sm, hx, h⟩ := h
  unfold slD at h
  split at h
  · obtain ⟨l, vs, rfl, h1, h2⟩ := hx.list sm
    exact sl_list pins s σ H _ v vl vu lo hi sl Q I rx hs pl pu ⟨l, vs, rfl, h1, h.new sm (cut_all h2 lo hi)⟩
  · obtain ⟨l, vs, rfl, h1, h2⟩ := hx.tuple sm
    refine sl_tupA pins s σ H _ v vl vu lo hi sl Q I rx hs pl pu ⟨l, vs, rfl, sqt_mono sm h1, fun e => ?_, fun _ => h.newT sm (cut_all h2 lo hi)⟩
    have c := cut_all h2 lo hi
    have e2 : cutV vs lo hi = vs := cut_whole e
    rw [e2] at c
    exact h.flat sm (.tup h1 c)
  · exact h.elim
theorem RBs.one {K : PySem.W.Frag} {H F : Hp} {xs : List V} {d : D} (h : RBs K H F xs [d]) : ∃ x, xs = [x] ∧ RB K H F d x := by
  cases h with
  | cons h1 h2 => cases h2; exact ⟨_, rfl, h1⟩
theorem RBs.two {K : PySem.W.Frag} {H F : Hp} {xs : List V} {d e : D} (h : RBs K H F xs [d, e]) : ∃ x y, xs = [x, y] ∧ RB K H F d x ∧ RB K H F e y := by
  cases h with
  | cons h1 h2 =>
    cases h2 with
    | cons h3 h4 => cases h4; exact ⟨_, _, rfl, h1, h3⟩
theorem mem_minI : ∀ (r : List Int) (x m : Int), m ∈ x :: r → (∀ y, y ∈ x :: r → m ≤ y) → m = minI (x :: r)
  | [], x, m, h, _ => by simpa [minI] using h
  | y :: r, x, m, h, hle => by
    have hx := hle x List.mem_cons_self
    show m = (if minI (y :: r) < x then minI (y :: r) else x)
    have key : ∀ (r : List Int) (y : Int), minI (y :: r) ∈ y :: r ∧ ∀ z, z ∈ y :: r → minI (y :: r) ≤ z := by
      intro r
      induction r with
      | nil => intro y; exact ⟨List.mem_cons_self, fun z hz => by simp at hz; subst hz; exact Int.le_refl _⟩
      | cons w r ih =>
        intro y
        obtain ⟨i1, i2⟩ := ih w
        show (if minI (w :: r) < y then minI (w :: r) else y) ∈ y :: w :: r ∧ ∀ z, z ∈ y :: w :: r → (if minI (w :: r) < y then minI (w :: r) else y) ≤ z
        split
        · refine ⟨List.mem_cons_of_mem _ i1, fun z hz => ?_⟩
          rcases List.mem_cons.mp hz with rfl | hz
          · omega
          · exact i2 z hz
        · refine ⟨List.mem_cons_self, fun z hz => ?_⟩
          rcases List.mem_cons.mp hz with rfl | hz
          · exact Int.le_refl _
          · have := i2 z hz; omega
    obtain ⟨k1, k2⟩ := key r y
    have k3 := hle _ (List.mem_cons_of_mem x k1)
    rcases List.mem_cons.mp h with rfl | h
    · rw [if_neg (by omega)]
    · have k4 := k2 m h
      by_cases e : minI (y :: r) < x
      · rw [if_pos e]; omega
      · rw [if_neg e]; omega
theorem mem_maxI : ∀ (r : List Int) (x m : Int), m ∈ x :: r → (∀ y, y ∈ x :: r → y ≤ m) → m = maxI (x :: r)
  | [], x, m, h, _ => by simpa [maxI] using h
  | y :: r, x, m, h, hle => by
    have hx := hle x List.mem_cons_self
    show m = (if x < maxI (y :: r) then maxI (y :: r) else x)
    have key : ∀ (r : List Int) (y : Int), maxI (y :: r) ∈ y :: r ∧ ∀ z, z ∈ y :: r → z ≤ maxI (y :: r) := by
      intro r
      induction r with
      | nil => intro y; exact ⟨List.mem_cons_self, fun z hz => by simp at hz; subst hz; exact Int.le_refl _⟩
      | cons w r ih =>
        intro y
        obtain ⟨i1, i2⟩ := ih w
        show (if y < maxI (w :: r) then maxI (w :: r) else y) ∈ y :: w :: r ∧ ∀ z, z ∈ y :: w :: r → z ≤ (if y < maxI (w :: r) then maxI (w :: r) else y)
        split
        · refine ⟨List.mem_cons_of_mem _ i1, fun z hz => ?_⟩
          rcases List.mem_cons.mp hz with rfl | hz
          · omega
          · exact i2 z hz
        · refine ⟨List.mem_cons_self, fun z hz => ?_⟩
          rcases List.mem_cons.mp hz with rfl | hz
          · exact Int.le_refl _
          · have := i2 z hz; omega
    obtain ⟨k1, k2⟩ := key r y
    have k3 := hle _ (List.mem_cons_of_mem x k1)
    rcases List.mem_cons.mp h with rfl | h
    · rw [if_neg (by omega)]
    · have k4 := k2 m h
      by_cases e : x < maxI (y :: r)
      · rw [if_pos e]; omega
      · rw [if_neg e]; omega
def Bi.nm : Bi → Str
  | .abs => "abs" | .len => "len" | .int => "int" | .list => "list" | .tuple => "tuple" | .sum => "sum" | .all => "all" | .min => "min" | .max => "max" | .sorted => "sorted"
def Bi.v : Bi → Value
  | .abs => .builtin "abs" | .len => .builtin "len" | .int => .type "int" | .list => .type "list" | .tuple => .type "tuple" | .sum => .builtin "sum" | .all => .builtin "all" | .min => .builtin "min" | .max => .builtin "max" | .sorted => .builtin "sorted"
theorem call_bi (hc : X.calm = true) (f : Bi) : CallR X f.v (rn X.K (biD f)) := by
  intro pins s σ H xs us Q I r h
  obtain ⟨F, ds, sm, hx, h⟩ := h
  unfold biD at h
  split at h
  · obtain ⟨x, rfl, h1⟩ := hx.one
    obtain rfl := h1.int
    exact call_abs pins s σ H _ us Q I r ⟨_, rfl, h.flat sm (.int _)⟩
  · obtain ⟨x, rfl, h1⟩ := hx.one
    obtain ⟨l, vs, rfl, h1, h2⟩ := h1.list sm
    refine call_len_seq pins s σ H _ us Q I r ⟨l, vs, rfl, .inl h1, ?_⟩
    rw [h2.length]
    exact h.flat sm (.int _)
  · obtain ⟨x, rfl, h1⟩ := hx.one
    obtain ⟨l, vs, rfl, h1, h2⟩ := h1.tuple sm
    refine call_len_seq pins s σ H _ us Q I r ⟨l, vs, rfl, .inr (sqt_mono sm h1), ?_⟩
    rw [h2.length]
    exact h.flat sm (.int _)
  · obtain ⟨x, rfl, h1⟩ := hx.one
    obtain rfl := h1.int
    exact call_int1 pins s σ H _ us Q I r (.inl ⟨_, rfl, h.flat sm (.int _)⟩)
  · obtain ⟨x, rfl, h1⟩ := hx.one
    obtain rfl := h1.bool
    exact call_int1 pins s σ H _ us Q I r (.inr ⟨_, rfl, h.flat sm (.int _)⟩)
  · obtain ⟨x, rfl, h1⟩ := hx.one
    obtain ⟨l, vs, rfl, h1, h2⟩ := h1.list sm
    exact call_list_of pins s σ H _ us Q I r ⟨l, vs, rfl, .inl h1, h.new sm h2⟩
  · obtain ⟨x, rfl, h1⟩ := hx.one
    obtain ⟨l, vs, rfl, h1, h2⟩ := h1.tuple sm
    exact call_list_of pins s σ H _ us Q I r ⟨l, vs, rfl, .inr (sqt_mono sm h1), h.new sm h2⟩
  · obtain ⟨x, rfl, h1⟩ := hx.one
    obtain ⟨l, vs, rfl, h1, h2⟩ := h1.list sm
    exact call_tuple_of pins s σ H _ us Q I r ⟨l, vs, rfl, .inl ⟨h1, h.newT sm h2⟩⟩
  · obtain ⟨x, rfl, h1⟩ := hx.one
    obtain ⟨l, vs, rfl, h1, h2⟩ := h1.tuple sm
    exact call_tuple_of pins s σ H _ us Q I r ⟨l, vs, rfl, .inr ⟨sqt_mono sm h1, h.flat sm (.tup h1 h2)⟩⟩
  · obtain ⟨x, rfl, h1⟩ := hx.one
    obtain ⟨l, vs, rfl, h1, h2⟩ := h1.list sm
    split at h
    · rename_i ns hn
      have e := h2.ints hn
      subst e
      exact cr_sum hc pins s σ H _ us Q I r ⟨l, ns, rfl, h1, h.flat sm (.int _)⟩
    · exact h.elim
  · obtain ⟨x, rfl, h1⟩ := hx.one
    obtain ⟨l, vs, rfl, h1, h2⟩ := h1.list sm
    split at h
    · rename_i ns hn
      have e := h2.bools hn
      subst e
      exact cr_all hc pins s σ H _ us Q I r ⟨l, ns, rfl, h1, h.flat sm (.bl _)⟩
    · exact h.elim
  · obtain ⟨x, rfl, h1⟩ := hx.one
    obtain ⟨l, vs, rfl, h1, h2⟩ := h1.list sm
    split at h
    · rename_i n ns hn
      have e := h2.ints hn
      subst e
      refine cr_min hc pins s σ H _ us Q I r ⟨l, n :: ns, rfl, h1, Nat.succ_pos _, fun m hm hle => ?_⟩
      rw [mem_minI ns n m hm hle]
      exact h.flat sm (.int _)
    · exact h.elim
  · obtain ⟨x, rfl, h1⟩ := hx.one
    obtain ⟨l, vs, rfl, h1, h2⟩ := h1.list sm
    split at h
    · rename_i n ns hn
      have e := h2.ints hn
      subst e
      refine cr_max hc pins s σ H _ us Q I r ⟨l, n :: ns, rfl, h1, Nat.succ_pos _, fun m hm hle => ?_⟩
      rw [mem_maxI ns n m hm hle]
      exact h.flat sm (.int _)
    · exact h.elim
  · obtain ⟨x, y, rfl, h1, h2⟩ := hx.two
    obtain rfl := h1.int; obtain rfl := h2.int
    exact call_min2 hc pins s σ H _ us Q I r ⟨_, _, rfl, h.flat sm (.int _)⟩
  · obtain ⟨x, y, rfl, h1, h2⟩ := hx.two
    obtain rfl := h1.int; obtain rfl := h2.int
    exact call_max2 hc pins s σ H _ us Q I r ⟨_, _, rfl, h.flat sm (.int _)⟩
  · exact h.elim
def Ty.nm : Ty → String
  | .int => "int" | .bool => "bool" | .tuple => "tuple" | .list => "list" | .str => "str"
def tyD : D → Option String
  | .none => some "NoneType" | .bool _ => some "bool" | .int _ => some "int" | .str _ => some "str" | .list _ => some "list" | .tuple _ => some "tuple" | .dict _ => none
theorem ty_of {K : PySem.W.Frag} {H F : Hp} {d : D} {v : V} (sm : Same F H) (h : RB K H F d v) : ∃ t, tyD d = some t ∧ TyX K H v (.type t) := by
  rcases h with h | ⟨l, vs, ds', rfl, rfl, h1, h3⟩
  · cases h with
    | non => exact ⟨_, rfl, .base .non⟩
    | bl b => exact ⟨_, rfl, .base (.bl b)⟩
    | int b => exact ⟨_, rfl, .base (.int b)⟩
    | str b => exact ⟨_, rfl, .base (.str b)⟩
    | lst h1 h2 =>
      rcases sql_mono sm h1 with (h | ⟨o, h⟩) | ⟨o, its, n, e1, e2, _⟩
      · exact ⟨_, rfl, .base (.lst h)⟩
      · exact ⟨_, rfl, .base (.frz h)⟩
      · exact ⟨_, rfl, .kList e1 e2⟩
    | tup h1 h2 =>
      rcases sqt_mono sm h1 with (h | ⟨o, h⟩) | ⟨o, its, n, e1, e2, _⟩
      · exact ⟨_, rfl, .base (.tup h)⟩
      · exact ⟨_, rfl, .fTuple h⟩
      · exact ⟨_, rfl, .kTuple e1 e2⟩
  · exact ⟨_, rfl, .base (.lst h1)⟩
theorem isi_kit {K : PySem.W.Frag} {ty : Ty} {d : D} {b : Bool} {t : String} (h : isiD ty d = .ok (.val (.bool b))) (e : tyD d = some t) : PySem.W.kitOne K (.type t) (.type ty.nm) = some b := by
  refine kit_ty ?_
  cases ty <;> cases d <;> simp only [isiD, tyD, M.ok.injEq, B.val.injEq, PyData.bool.injEq, Option.some.injEq, reduceCtorEq] at h e <;> subst h <;> subst e <;> decide +kernel
theorem call_isiD (ty : Ty) : CallR X (.builtin "isinstance") (fun xs H Q => ∃ x F d, xs = [x, .ty ty.nm] ∧ Same F H ∧ RB X.K H F d x ∧ AfV X.K H F (isiD ty d) Q) := by
  intro pins s σ H xs us Q I r h
  obtain ⟨x, F, d, rfl, sm, hx, h⟩ := h
  obtain ⟨t, e, ht⟩ := ty_of sm hx
  have key : ∃ b, isiD ty d = .ok (.val (.bool b)) := by
    cases ty <;> cases d <;> first | exact ⟨_, rfl⟩ | (simp [tyD] at e)
  obtain ⟨b, hb⟩ := key
  rw [hb] at h
  exact call_isi pins s σ H _ us Q I r ⟨x, _, _, _, b, rfl, .ty _, ht, isi_kit hb e, h.flat sm (.bl _)⟩
end
end Tg
namespace Tg
open PySem PySem.Spec PyProof.Rows L2
structure Tb where
  N : List Str
  cal : List Str
  con : List (Str × D)
  exc : List Str
structure Sc where
  sc : Scope
  fn : Str → Bool
def Sc.kd (s : Sc) (x : Str) : Option NameKind := s.sc.names.lookup x
def ckVis (T : Tb) (s : Sc) (i : Nat) (x : Str) : Bool :=
  decide (T.N[i]? = some x) && (decide (s.kd x = some .local) || decide (s.kd x = some .cell) || decide (s.kd x = some .free)) && (!(x == ("__debug__" : Str))) && (!(x == ("__classdict__" : Str)))
def ckLoc (T : Tb) (s : Sc) (i : Nat) (x : Str) : Bool :=
  decide (T.N[i]? = some x) && (decide (s.kd x = some .local) || (decide (s.kd x = some .cell) && s.fn x))
def ckGl (s : Sc) (x : Str) : Bool := decide (s.kd x = some .globalImplicit) && (!(x == ("__debug__" : Str)))
def ckC (d : D) (c : Const) : Bool := match d, c with
  | .none, .none => true
  | .bool a, .bool b => decide (a = b)
  | .int a, .int b => decide (a = b)
  | .str a, .str b => decide (a = b)
  | _, _ => false
def nst : Expr → Bool
  | .Starred .. => false
  | _ => true
def opB (o : BOp) (p : Operator) : Bool := match o, p with
  | .add, .Add => true | .sub, .Sub => true | .mul, .Mult => true | .fdiv, .FloorDiv => true | .mod, .Mod => true | .pow, .Pow => true
  | _, _ => false
def opC (o : COp) (p : CmpOp) : Bool := match o, p with
  | .lt, .Lt => true | .le, .LtE => true | .gt, .Gt => true | .ge, .GtE => true | .eq, .Eq => true | .ne, .NotEq => true | .isIn, .In => true | .notIn, .NotIn => true
  | .isN, .Is => true | .notN, .IsNot => true | .isB, .Is => true | .notB, .IsNot => true
  | _, _ => false
def nset : Expr → Bool
  | .Set .. => false
  | _ => true
def plainIx : Expr → Bool
  | .Slice .. => false
  | _ => true
def plainT : Expr → Bool
  | .UnaryOp .. => false
  | .BoolOp .. => false
  | .IfExp .. => false
  | .Compare .. => false
  | _ => true
def isN : Expr → Bool
  | .Name .. => true
  | _ => false
mutual
def eqD : D → D → Bool
  | .none, y => (match y with | .none => true | _ => false)
  | .bool a, y => (match y with | .bool b => decide (a = b) | _ => false)
  | .int a, y => (match y with | .int b => decide (a = b) | _ => false)
  | .str a, y => (match y with | .str b => decide (a = b) | _ => false)
  | .list a, y => (match y with | .list b => eqDs a b | _ => false)
  | .tuple a, y => (match y with | .tuple b => eqDs a b | _ => false)
  | .dict _, _ => false
def eqDs : List D → List D → Bool
  | [], y => y.isEmpty
  | a :: r, y => (match y with | b :: s => eqD a b && eqDs r s | [] => false)
end
mutual
theorem eqD_eq : ∀ {x y : D}, eqD x y = true → x = y
  | .none, y, h => by cases y <;> simp [eqD] at h; rfl
  | .bool a, y, h => by cases y <;> simp [eqD] at h; rw [h]
  | .int a, y, h => by cases y <;> simp [eqD] at h; rw [h]
  | .str a, y, h => by cases y <;> simp [eqD] at h; rw [h]
  | .list a, y, h => by cases y <;> simp only [eqD] at h <;> first | cases h | rw [eqDs_eq h]
  | .tuple a, y, h => by cases y <;> simp only [eqD] at h <;> first | cases h | rw [eqDs_eq h]
  | .dict _, y, h => by simp [eqD] at h
theorem eqDs_eq : ∀ {x y : List D}, eqDs x y = true → x = y
  | [], y, h => by cases y <;> simp [eqDs] at h; rfl
  | a :: r, y, h => by
    cases y with
    | nil => simp [eqDs] at h
    | cons b s =>
      simp only [eqDs, Bool.and_eq_true] at h
      rw [eqD_eq h.1, eqDs_eq h.2]
end
mutual
def ckT (T : Tb) (s : Sc) : Tg → Expr → Bool
  | .nm i, e => (match e with | .Name x _ => ckLoc T s i x | _ => false)
  | .tp ts, e => (match e with | .Tuple es _ _ => ckTs T s ts es | _ => false)
def ckTs (T : Tb) (s : Sc) : List Tg → List Expr → Bool
  | [], es => (match es with | [] => true | _ => false)
  | t :: ts, es => (match es with | e :: es => nst e && ckT T s t e && ckTs T s ts es | [] => false)
end
mutual
def slotsT : Tg → List Nat
  | .nm i => [i]
  | .tp ts => slotsTs ts
def slotsTs : List Tg → List Nat
  | [] => []
  | t :: ts => slotsT t ++ slotsTs ts
end
def ownOf (T : Tb) (own : List Nat) : List (Str × Nat) := own.map fun i => (T.N.getD i "", i)
theorem ownOf_snd (T : Tb) (own : List Nat) : (ownOf T own).map (·.2) = own := by
  unfold ownOf
  rw [List.map_map]
  exact List.map_id _
def ckItP (k : ItK) (q : List Expr → Bool) (s : Sc) (e : Expr) : Bool := match k with
  | .seq => nset e && q [e]
  | .rng => (match e with | .Call (.Name x _) xs [] _ => decide (x = "range") && ckGl s x && decide (1 ≤ xs.length) && decide (xs.length ≤ 3) && q xs | _ => false)
  | .zip => (match e with | .Call (.Name x _) xs [] _ => decide (x = "zip") && ckGl s x && decide (xs.length = 2) && q xs | _ => false)
  | .rev => (match e with | .Call (.Name x _) xs [] _ => decide (x = "reversed") && ckGl s x && decide (xs.length = 1) && q xs | _ => false)
mutual
def ckE (T : Tb) : E → Sc → Expr → Bool
  | .var i, s, e => (match e with | .Name x _ => ckVis T s i x | _ => false)
  | .con d, _, e => (match e with | .Constant c _ _ => ckC d c | _ => false)
  | .glob k d, s, e => (match e with
    | .Name x _ => ckGl s x && (match T.con[k]? with | some p => decide (p.1 = x) && eqD p.2 d | none => false)
    | _ => false)
  | .tup es, s, e => (match e with | .Tuple xs _ _ => decide (es.length < 1000) && ckL T es s xs | _ => false)
  | .lst es, s, e => (match e with | .List xs _ => decide (es.length < 1000) && ckL T es s xs | _ => false)
  | .rep es b, s, e => (match e with
    | .BinOp (.List xs _) .Mult y _ => decide (es.length < 1000) && ckL T es s xs && ckE T b s y
    | _ => false)
  | .bop o a b, s, e => (match e with | .BinOp x p y _ => opB o p && ckE T a s x && ckE T b s y | _ => false)
  | .neg a, s, e => (match e with | .UnaryOp .USub x _ => ckE T a s x | _ => false)
  | .not a, s, e => (match e with | .UnaryOp .Not x _ => ckE T a s x | _ => false)
  | .and a b, s, e => (match e with
    | .BoolOp .And (x :: y :: r) p => ckE T a s x && (if r.isEmpty then ckE T b s y else ckE T b s (.BoolOp .And (y :: r) p))
    | _ => false)
  | .or a b, s, e => (match e with
    | .BoolOp .Or (x :: y :: r) p => ckE T a s x && (if r.isEmpty then ckE T b s y else ckE T b s (.BoolOp .Or (y :: r) p))
    | _ => false)
  | .cmp o a b, s, e => (match e with | .Compare x [p] [y] _ => opC o p && nset y && ckE T a s x && ckE T b s y | _ => false)
  | .ix a b, s, e => (match e with | .Subscript x y _ => plainIx y && ckE T a s x && ckE T b s y | _ => false)
  | .sl a lo hi, s, e => (match e with
    | .Subscript x (.Slice l h none _) _ => ckE T a s x && (match l with | some y => ckL T lo s [y] | none => lo.isEmpty) && (match h with | some y => ckL T hi s [y] | none => hi.isEmpty)
    | _ => false)
  | .bi f es, s, e => (match e with
    | .Call (.Name x _) xs [] _ => decide (x = f.nm) && ckGl s x && !xs.isEmpty && ckL T es s xs
    | _ => false)
  | .isi a t, s, e => (match e with
    | .Call (.Name x _) [y, .Name z _] [] _ => decide (x = "isinstance") && ckGl s x && decide (z = Str.ofString t.nm) && ckGl s z && ckE T a s y
    | _ => false)
  | .call k es, s, e => (match e with
    | .Call (.Name x _) xs [] _ => decide (T.cal[k]? = some x) && ckGl s x && !xs.isEmpty && ckL T es s xs
    | _ => false)
  | .lc m t k es c own, s, e => (match e with
    | .ListComp elt [⟨tg, iter, ifs, 0⟩] scope _ =>
      blkC T.N s.sc scope (ownOf T own) && ckItP k (fun xs => ckL T es s xs) s iter && (match k with | .zip => (match tg with | .Tuple .. => true | _ => false) | _ => true) &&
        (slotsT t).all (fun i => own.contains i) && ckT T ⟨relS scope s.sc, fun x => scope.names.lookup x == some .cell⟩ t tg && decide (ifs.length ≤ 1) &&
        ckL T c ⟨relS scope s.sc, fun x => scope.names.lookup x == some .cell⟩ ifs && ckE T m ⟨relS scope s.sc, fun x => scope.names.lookup x == some .cell⟩ elt
    | _ => false)
def ckL (T : Tb) : List E → Sc → List Expr → Bool
  | [], _, xs => xs.isEmpty
  | m :: ms, s, xs => (match xs with | x :: xs => ckE T m s x && ckL T ms s xs | [] => false)
end
def ckIt (T : Tb) (k : ItK) (es : List E) (s : Sc) (e : Expr) : Bool := ckItP k (ckL T es s) s e
theorem ckE_nst {T : Tb} {m : E} {s : Sc} {e : Expr} (h : ckE T m s e = true) : nst e = true := by
  cases e <;> first | rfl | (cases m <;> simp [ckE] at h)
theorem ckL_nst {T : Tb} : ∀ {ms : List E} {s : Sc} {es : List Expr}, ckL T ms s es = true → es.all nst = true
  | [], _, es, h => by
    cases es with
    | nil => rfl
    | cons => simp [ckL] at h
  | m :: ms, s, es, h => by
    cases es with
    | nil => rfl
    | cons e es =>
      simp only [ckL, Bool.and_eq_true] at h
      rw [List.all_cons, ckE_nst h.1, ckL_nst h.2]; rfl
theorem ckL_len {T : Tb} : ∀ {ms : List E} {s : Sc} {es : List Expr}, ckL T ms s es = true → ms.length = es.length
  | [], _, es, h => by
    cases es with
    | nil => rfl
    | cons => simp [ckL] at h
  | m :: ms, s, es, h => by
    cases es with
    | nil => simp [ckL] at h
    | cons e es =>
      simp only [ckL, Bool.and_eq_true] at h
      rw [List.length_cons, List.length_cons, ckL_len h.2]
theorem star_cons {e : Expr} {es : List Expr} {env : Env} (h : nst e = true) : starEach (e :: es) env = (false, eval e env) :: starEach es env := by
  cases e <;> first | rfl | cases h
theorem star_any {pos : Pos} {env : Env} : ∀ {es : List Expr}, es.all nst = true → (backTo pos (starEach es env)).any (·.1) = false
  | [], _ => rfl
  | e :: es, h => by
    rw [List.all_cons, Bool.and_eq_true] at h
    rw [star_cons h.1]
    have ih := star_any (pos := pos) (env := env) h.2
    unfold backTo at ih ⊢
    rw [List.map_cons, List.any_cons, ih]; rfl
theorem asg_cons {e : Expr} {es : List Expr} {env : Env} (h : nst e = true) : assignEach (e :: es) env = (false, assign e env) :: assignEach es env := by
  cases e <;> first | rfl | cases h
theorem asg_len {env : Env} : ∀ {es : List Expr}, es.all nst = true → (assignEach es env).length = es.length ∧ (assignEach es env).findIdx? (·.1) = none
  | [], _ => ⟨rfl, rfl⟩
  | e :: es, h => by
    rw [List.all_cons, Bool.and_eq_true] at h
    rw [asg_cons h.1]
    obtain ⟨i1, i2⟩ := asg_len (env := env) h.2
    refine ⟨by rw [List.length_cons, List.length_cons, i1], ?_⟩
    rw [List.findIdx?_cons, i2]; rfl
theorem nset_fold {e : Expr} {env : Env} (h : nset e = true) (x : Value) : foldedSetIterable e env x = pure x := by
  cases e <;> first | rfl | cases h
theorem nset_mark {e : Expr} {op : CmpOp} (h : nset e = true) : behindInMarks op e = false := by
  cases e <;> first | rfl | cases h
theorem plainIx_ok {e : Expr} (h : plainIx e = true) : PlainIx e := by
  cases e <;> first | exact fun _ _ => rfl | cases h
theorem plainT_ok {e : Expr} {env : Env} (h : plainT e = true) (whole : Sem Value) : isTrue e env whole = (do let v ← whole; standAt e.pos; holding [v] (truthy v)) := by
  cases e <;> first | rfl | cases h
theorem relabel_relS (scope : Scope) (env : Env) : relabel scope env = relS scope env.scope := rfl
theorem blk_scope {X : Cx} {s : Shared} {H : Hp} {scope : Scope} {cl : List (Str × Addr)} {C : Addr} {fp : List Addr} : (X.blk s H scope (compEnvC scope cl C X.env) fp).env.scope = relS scope X.env.scope := rfl
end Tg
namespace Tg
open PySem PySem.Spec PyProof.Rows L2
def spP (K : PySem.W.Frag) (n : Nat) (den : List D → M B) (ev : Nat → Value) : Sp := fun vs H Q E => ∃ F ds, vs.length = n ∧ Same F H ∧ DqAll K F vs ds ∧ match den ds with
  | .ok b => ∀ v H' F', Gr H F H' F' → RepB K H' F' b v → NewB H b v → Q v H'
  | .ex c => ∀ H' F', Gr H F H' F' → E (ev c) none H'
  | .stuck => False
def bltNames : List Str := ["abs", "len", "int", "list", "tuple", "sum", "all", "min", "max", "sorted", "range", "zip", "reversed", "isinstance", "bool", "str"]
structure Good (T : Tb) (Φ : Fs) (w : Wx) (ev : Nat → Value) (s : Sc) (X : Cx) : Prop where
  N : X.N = T.N
  nd : T.N.Nodup
  calm : X.calm = true
  units : X.A.units + 65 < cLine
  sc : X.env.scope = s.sc
  fn : X.fn = s.fn
  calls : ∀ (k : Nat) (x : Str), T.cal[k]? = some x → ∃ f fd ps lvl, X.mg x = some (.ref f) ∧ Room lvl X.A ∧ FnOk X.prog X.w X.K X.mg X.base (L2.CX X.prog X.w) lvl f fd ps (spP X.K ps.length (Φ k) ev) ∧ (∀ ds, ds.length ≠ ps.length → Φ k ds = .stuck) ∧ PySem.W.keepIn X.K (.ref f) = true ∧ Binds X.K fd ps []
  blt : ∀ x ∈ bltNames, X.mg x = none
  con : ∀ (k : Nat) (x : Str) (d : D), T.con[k]? = some (x, d) → ∃ v u, X.mg x = some u ∧ RelV v u ∧ ∀ F, Dq X.K F v d
  tk : Takes X (fun cls d σ H => ∃ c, cls = ev c ∧ d = none ∧ w c σ H)
  po : PassesOwn (model X.prog X.w) X.A X.env X.xe
  exc : ∀ (k : Nat) (x : Str), T.exc[k]? = some x → ∃ C, ev k = .ref C ∧ X.mg x = some (.ref C) ∧ PySem.W.excIn X.K C HandSPX.veTail "ValueError.__new__" = true ∧ PySem.W.keepIn X.K (.ref C) = true ∧ Raises X (.ref C)
abbrev w0 : Wx := fun _ _ _ => False
theorem Good.blk {T : Tb} {Φ : Fs} {w : Wx} {ev : Nat → Value} {s : Sc} {X : Cx} (G : Good T Φ w ev s X) {sh : Shared} {H : Hp} {scope : Scope} {cl : List (Str × Addr)} {C : Addr} {fp : List Addr} :
    Good T Φ w0 ev ⟨relS scope s.sc, fun x => scope.names.lookup x == some .cell⟩ (X.blk sh H scope (compEnvC scope cl C X.env) fp) where
  N := G.N
  nd := G.nd
  calm := G.calm
  units := G.units
  sc := by rw [blk_scope, G.sc]
  fn := rfl
  calls := G.calls
  blt := G.blt
  con := G.con
  tk := Takes.imp takes0 fun c d σ H ⟨_, _, _, z⟩ => z
  po := PassesOwn.never
  exc := G.exc
section
variable {K : PySem.W.Frag} {w : Wx} {σ : L2.St} {H F : Hp}
theorem AfB.toE {r : M B} {Q : VK} (h : AfB K w σ H F (valM r) Q) : AfE K w σ H F r Q := by
  cases r with
  | ok b => exact fun v H' F' g rep _ => h v H' F' g rep.rb
  | ex c => exact h
  | stuck => exact h
theorem bor_ne {ρ : En} {m : E} {r : M B} (hm : ∀ i, m ≠ .var i) : bor ρ m r = valM r := by
  cases m <;> first | rfl | (rename_i i; exact absurd rfl (hm i))
end
section
variable {T : Tb} {Φ : Fs} {w : Wx} {ev : Nat → Value} {s : Sc} {X : Cx}
theorem vis_of (G : Good T Φ w ev s X) {i : Nat} {x : Str} (h : ckVis T s i x = true) : X.N[i]? = some x ∧ Vis X.env.scope x ∧ (x == ("__debug__" : Str)) = false ∧ (x == ("__classdict__" : Str)) = false := by
  unfold ckVis at h
  simp only [Bool.and_eq_true, Bool.or_eq_true, decide_eq_true_eq, Bool.not_eq_true'] at h
  obtain ⟨⟨⟨h1, h2⟩, h3⟩, h4⟩ := h
  refine ⟨by rw [G.N]; exact h1, ?_, h3, h4⟩
  unfold Vis
  rw [G.sc]
  rcases h2 with (h2 | h2) | h2
  · exact .inl h2
  · exact .inr (.inl h2)
  · exact .inr (.inr h2)
theorem gl_of (G : Good T Φ w ev s X) {x : Str} (h : ckGl s x = true) : Gl X x ∧ (x == ("__debug__" : Str)) = false := by
  unfold ckGl at h
  simp only [Bool.and_eq_true, decide_eq_true_eq, Bool.not_eq_true'] at h
  refine ⟨?_, h.2⟩
  show X.env.scope.names.lookup x = _
  rw [G.sc]; exact h.1
theorem pe_varE {i : Nat} {x : Str} {pos : Pos} (G : Good T Φ w ev s X) (h : ckVis T s i x = true) : PE X (.Name x pos) (tE X.K w Φ (.var i)) := by
  obtain ⟨h1, h2, h3, h4⟩ := vis_of G h
  refine pe_weak (pe_var h1 h2 h3 h4) fun σ H Q ⟨H0, F0, F, ρ, R, a⟩ => ?_
  simp only [evE, lookE] at a
  split at a
  · rename_i d e
    obtain ⟨v, e1, e2⟩ := R.val i d e
    exact ⟨v, e1, a v H F (.refl R.s) e2 trivial⟩
  · exact a.elim
theorem pe_varB {i : Nat} {x : Str} {pos : Pos} (G : Good T Φ w ev s X) (h : ckVis T s i x = true) : PE X (.Name x pos) (tB X.K w Φ (.var i)) := by
  obtain ⟨h1, h2, h3, h4⟩ := vis_of G h
  refine pe_weak (pe_var h1 h2 h3 h4) fun σ H Q ⟨H0, F0, F, ρ, R, a⟩ => ?_
  simp only [bor, lookB] at a
  split at a
  · rename_i b e
    cases b with
    | val d =>
      obtain ⟨v, e1, e2⟩ := R.val i d e
      exact ⟨v, e1, a v H F (.refl R.s) (.inl e2)⟩
    | own ds =>
      obtain ⟨l, vs, e1, e2, e3, e4, e5⟩ := R.own i ds e
      exact ⟨.ref l, e1, a _ H F (.refl R.s) (.inr ⟨l, vs, ds, rfl, rfl, e2, e5⟩)⟩
  · exact a.elim
theorem peB {m : E} {e : Expr} (G : Good T Φ w ev s X) (h : ckE T m s e = true) (hE : PE X e (tE X.K w Φ m)) : PE X e (tB X.K w Φ m) := by
  by_cases hm : ∃ i, m = .var i
  · obtain ⟨i, rfl⟩ := hm
    cases e <;> simp [ckE] at h
    exact pe_varB G h
  · refine pe_weak hE fun σ H Q ⟨H0, F0, F, ρ, R, a⟩ => ⟨H0, F0, F, ρ, R, ?_⟩
    rw [bor_ne fun i z => hm ⟨i, z⟩] at a
    exact a.toE
theorem two_r2 {K : PySem.W.Frag} {σ : L2.St} {H H0 F0 F : Hp} {ρ : En} {f : D → D → M B} {a b : E} {Q : VK} (hf : ∀ x y c, f x y ≠ .ex c) (R : StR K H0 F0 σ H F ρ)
    (h : AfE K w σ H F (do let x ← bor ρ a (evE Φ ρ a); let y ← bor ρ b (evE Φ ρ b); f x y) Q) : tOp (r2 K f) (tB K w Φ a) (tB K w Φ b) σ H Q := by
  refine ⟨H0, F0, F, ρ, R, ?_⟩
  cases e1 : bor ρ a (evE Φ ρ a) with
  | stuck => rw [e1] at h; exact h
  | ex c => rw [e1] at h; exact h
  | ok d1 =>
    rw [e1, bind_ok] at h
    intro v1 H1 F1 g1 r1
    refine ⟨H0, F0, F1, ρ, R.grow g1, ?_⟩
    cases e2 : bor ρ b (evE Φ ρ b) with
    | stuck => rw [e2] at h; exact h
    | ex c => rw [e2] at h; exact fun H' F' g => h H' F' (g1.trans g)
    | ok d2 =>
      rw [e2, bind_ok] at h
      intro v2 H2 F2 g2 r2'
      refine ⟨F2, d1, d2, g2.s, r1.mono g2, r2', ?_⟩
      cases e3 : f d1 d2 with
      | stuck => rw [e3] at h; exact h
      | ex c => exact (hf _ _ _ e3).elim
      | ok b =>
        rw [e3] at h
        intro v H' F' g rep nw
        refine h v H' F' ((g1.trans g2).trans g) rep ?_
        cases b with
        | val d => trivial
        | own ds =>
          obtain ⟨l, e, n⟩ := nw
          exact ⟨l, e, (g1.trans g2).h.free n⟩
theorem NewB.back {H H1 : Hp} {b : B} {v : V} (s : Same H H1) (n : NewB H1 b v) : NewB H b v := by
  cases b with
  | val d => trivial
  | own ds =>
    obtain ⟨l, e, n⟩ := n
    exact ⟨l, e, s.free n⟩
theorem noex_bop {o : BOp} {x y : D} {c : Nat} : bopD o x y ≠ .ex c := by
  intro h
  unfold bopD at h
  split at h <;> first | cases h | (split at h <;> cases h)
theorem noex_cmp {o : COp} {x y : D} {c : Nat} : cmpD o x y ≠ .ex c := by
  intro h
  unfold cmpD at h
  split at h <;> first | cases h | (split at h <;> cases h)
theorem noex_ix {x y : D} {c : Nat} : ixD x y ≠ .ex c := by
  intro h
  unfold ixD at h
  split at h <;> first | cases h | (split at h <;> cases h)
theorem noex_sl {x : D} {l u : Option Int} {c : Nat} : slD x l u ≠ .ex c := by
  intro h
  unfold slD at h
  split at h <;> cases h
theorem noex_rep {xs : List D} {y : D} {c : Nat} : repD xs y ≠ .ex c := by
  intro h
  unfold repD at h
  split at h <;> first | cases h | (split at h <;> cases h)
theorem noex_isi {t : Ty} {x : D} {c : Nat} : isiD t x ≠ .ex c := by
  cases t <;> cases x <;> exact fun h => by cases h
theorem noex_bi {f : Bi} {xs : List D} {c : Nat} : biD f xs ≠ .ex c := by
  intro h
  unfold biD at h
  split at h <;> first | cases h | (split at h <;> cases h)
end
end Tg
namespace Tg
open PySem PySem.Spec PyProof.Rows L2
def ItOk (K : PySem.W.Frag) (J : It) (ds : List D) (G F : Hp) : Prop := ∀ (i : Nat) (H1 F1 : Hp), Same G H1 → Same F F1 → Same F1 H1 →
  (∀ d, ds[i]? = some d → J.go i H1 ∧ ∀ x H2, J.yld i H1 x H2 → ∃ F2, Gr H1 F1 H2 F2 ∧ Dq K F2 x d) ∧ (i = ds.length → J.stop i H1)
def vI (K : PySem.W.Frag) (k : ItK) (vs : List V) (H : Hp) (R : It → Hp → Prop) : Prop := ∃ G F ds xs, Same F G ∧ Same G H ∧ RBs K G F vs ds ∧ itD k ds = .ok xs ∧ ∀ J, ItOk K J xs G F → R J H
section
variable {K : PySem.W.Frag} {G F H : Hp} {l : Addr} {vs : List V} {ds : List D}
theorem itok_list (h : SqL K G l vs) (r : DqAll K F vs ds) : ItOk K (Itl K l) ds G F := fun i H1 F1 sg sf s1 => by
  have hq : SqL K H1 l vs := sql_mono sg h
  refine ⟨fun d e => ?_, fun e => ⟨vs, hq, by rw [r.length]; omega⟩⟩
  obtain ⟨v, e1, e2⟩ := r.get e
  refine ⟨⟨vs, v, hq, e1⟩, fun x H2 y => ?_⟩
  obtain ⟨rfl, y⟩ := y
  have := y vs hq
  rw [e1] at this; cases this
  exact ⟨F1, .refl s1, Dq.mono sf _ _ e2⟩
theorem itok_tup (h : SqT K F l vs) (r : DqAll K F vs ds) : ItOk K (Itt K l) ds G F := fun i H1 F1 sg sf s1 => by
  have hq : SqT K H1 l vs := sqt_mono s1 (sqt_mono sf h)
  refine ⟨fun d e => ?_, fun e => ⟨vs, hq, by rw [r.length]; omega⟩⟩
  obtain ⟨v, e1, e2⟩ := r.get e
  refine ⟨⟨vs, v, hq, e1⟩, fun x H2 y => ?_⟩
  obtain ⟨rfl, y⟩ := y
  have := y vs hq
  rw [e1] at this; cases this
  exact ⟨F1, .refl s1, Dq.mono sf _ _ e2⟩
theorem rev_get {α : Type} {xs : List α} {i : Nat} {d : α} (e : xs.reverse[i]? = some d) : i < xs.length ∧ xs[xs.length - 1 - i]? = some d := by
  have h := (List.getElem?_eq_some_iff.mp e).1
  rw [List.length_reverse] at h
  rw [List.getElem?_reverse h] at e
  exact ⟨h, e⟩
theorem itok_revL (h : SqL K G l vs) (r : DqAll K F vs ds) : ItOk K (Itv K l vs.length) ds.reverse G F := fun i H1 F1 sg sf s1 => by
  have hq : SqL K H1 l vs := sql_mono sg h
  refine ⟨fun d e => ?_, fun e => ?_⟩
  · obtain ⟨hi, e⟩ := rev_get e
    rw [← r.length] at hi e
    obtain ⟨v, e1, e2⟩ := r.get e
    refine ⟨⟨hi, vs, v, hq, e1⟩, fun x H2 y => ?_⟩
    obtain ⟨rfl, y⟩ := y
    have := y vs hq
    rw [e1] at this; cases this
    exact ⟨F1, .refl s1, Dq.mono sf _ _ e2⟩
  · rw [List.length_reverse] at e
    show vs.length ≤ i
    rw [r.length]; omega
theorem itok_revT (h : SqT K F l vs) (r : DqAll K F vs ds) : ItOk K (RT.ItvT K l vs.length) ds.reverse G F := fun i H1 F1 sg sf s1 => by
  have hq : SqT K H1 l vs := sqt_mono s1 (sqt_mono sf h)
  refine ⟨fun d e => ?_, fun e => ?_⟩
  · obtain ⟨hi, e⟩ := rev_get e
    rw [← r.length] at hi e
    obtain ⟨v, e1, e2⟩ := r.get e
    refine ⟨⟨hi, vs, v, hq, e1⟩, fun x H2 y => ?_⟩
    obtain ⟨rfl, y⟩ := y
    have := y vs hq
    rw [e1] at this; cases this
    exact ⟨F1, .refl s1, Dq.mono sf _ _ e2⟩
  · rw [List.length_reverse] at e
    show vs.length ≤ i
    rw [r.length]; omega
theorem rngD_len (c : Int) : ∀ (n : Nat) (lo : Int), (rngD lo c n).length = n
  | 0, _ => rfl
  | n + 1, lo => by show (rngD (lo + c) c n).length + 1 = n + 1; rw [rngD_len c n]
theorem rngD_get (c : Int) : ∀ (n : Nat) (lo : Int) (i : Nat) (d : D), (rngD lo c n)[i]? = some d → i < n ∧ d = .int (lo + (i : Int) * c)
  | 0, _, i, d, h => by simp [rngD] at h
  | n + 1, lo, 0, d, h => by simp [rngD] at h; subst h; simp
  | n + 1, lo, i + 1, d, h => by
    have := rngD_get c n (lo + c) i d (by simpa [rngD] using h)
    refine ⟨by omega, ?_⟩
    rw [this.2]
    congr 1
    have : ((i + 1 : Nat) : Int) * c = (i : Int) * c + c := by
      rw [show ((i + 1 : Nat) : Int) = (i : Int) + 1 by omega, Int.add_mul, Int.one_mul]
    omega
theorem itok_rng {lo : Int} {n : Nat} : ItOk K (Itr lo n) (rngD lo 1 n) G F := fun i H1 F1 sg sf s1 => by
  refine ⟨fun d e => ?_, fun e => by rw [rngD_len] at e; exact Nat.le_of_eq e.symm⟩
  obtain ⟨h1, rfl⟩ := rngD_get 1 n lo i d e
  refine ⟨h1, fun x H2 y => ?_⟩
  obtain ⟨rfl, rfl⟩ := y
  rw [Int.mul_one]
  exact ⟨F1, .refl s1, .int _⟩
theorem itok_rngC {lo c : Int} {n : Nat} : ItOk K (Itc lo c n) (rngD lo c n) G F := fun i H1 F1 sg sf s1 => by
  refine ⟨fun d e => ?_, fun e => by rw [rngD_len] at e; exact Nat.le_of_eq e.symm⟩
  obtain ⟨h1, rfl⟩ := rngD_get c n lo i d e
  refine ⟨h1, fun x H2 y => ?_⟩
  obtain ⟨rfl, rfl⟩ := y
  exact ⟨F1, .refl s1, .int _⟩
theorem zipD_get : ∀ {xs ys : List D} {i : Nat} {d : D}, (zipD xs ys)[i]? = some d → ∃ x y, xs[i]? = some x ∧ ys[i]? = some y ∧ d = .tuple [x, y]
  | [], _, i, d, h => by simp [zipD] at h
  | x :: xs, [], i, d, h => by simp [zipD] at h
  | x :: xs, y :: ys, 0, d, h => by simp [zipD] at h; exact ⟨x, y, rfl, rfl, h.symm⟩
  | x :: xs, y :: ys, i + 1, d, h => by simpa using zipD_get (xs := xs) (ys := ys) (i := i) (d := d) (by simpa [zipD] using h)
theorem zipD_len : ∀ {xs ys : List D}, (zipD xs ys).length = min xs.length ys.length
  | [], _ => by simp [zipD]
  | x :: xs, [] => by simp [zipD]
  | x :: xs, y :: ys => by show (zipD xs ys).length + 1 = _; rw [zipD_len, List.length_cons, List.length_cons]; omega
theorem pair_ok {H1 F1 : Hp} {T : Addr} {x y : V} {a b : D} (s1 : Same F1 H1) (n : H1 T = none) (h1 : Dq K F1 x a) (h2 : Dq K F1 y b) : ∃ F2, Gr H1 F1 (upd H1 T (.tup [x, y])) F2 ∧ Dq K F2 (.ref T) (.tuple [a, b]) := by
  have sn := same_new (o := .tup [x, y]) (s1.free n)
  exact ⟨_, .lay s1 n, .tup (.of upd_same) (.cons (Dq.mono sn _ _ h1) (.cons (Dq.mono sn _ _ h2) .nil))⟩
theorem itok_zipL {l2 : Addr} {us : List V} {es : List D} (h : SqL K G l vs) (r : DqAll K F vs ds) (h' : SqL K G l2 us) (r' : DqAll K F us es) : ItOk K (Itz K l l2) (zipD ds es) G F := fun i H1 F1 sg sf s1 => by
  have hq : SqL K H1 l vs := sql_mono sg h
  have hq' : SqL K H1 l2 us := sql_mono sg h'
  refine ⟨fun d e => ?_, fun e => ⟨vs, us, hq, hq', by rw [zipD_len] at e; rw [r.length, r'.length]; omega⟩⟩
  obtain ⟨a, b, e1, e2, rfl⟩ := zipD_get e
  obtain ⟨x, f1, f2⟩ := r.get e1
  obtain ⟨y, g1, g2⟩ := r'.get e2
  refine ⟨⟨vs, us, x, y, hq, hq', f1, g1⟩, fun v H2 yl => ?_⟩
  obtain ⟨T, x', y', rfl, nT, rfl, k1, k2⟩ := yl
  have := k1 vs hq; rw [f1] at this; cases this
  have := k2 us hq'; rw [g1] at this; cases this
  exact pair_ok s1 nT (Dq.mono sf _ _ f2) (Dq.mono sf _ _ g2)
theorem itok_zipT {l2 : Addr} {us : List V} {es : List D} (h : SqT K F l vs) (r : DqAll K F vs ds) (h' : SqT K F l2 us) (r' : DqAll K F us es) : ItOk K (RZ.ItzT K l l2) (zipD ds es) G F := fun i H1 F1 sg sf s1 => by
  have hq : SqT K H1 l vs := sqt_mono s1 (sqt_mono sf h)
  have hq' : SqT K H1 l2 us := sqt_mono s1 (sqt_mono sf h')
  refine ⟨fun d e => ?_, fun e => ⟨vs, us, hq, hq', by rw [zipD_len] at e; rw [r.length, r'.length]; omega⟩⟩
  obtain ⟨a, b, e1, e2, rfl⟩ := zipD_get e
  obtain ⟨x, f1, f2⟩ := r.get e1
  obtain ⟨y, g1, g2⟩ := r'.get e2
  refine ⟨⟨vs, us, x, y, hq, hq', f1, g1⟩, fun v H2 yl => ?_⟩
  obtain ⟨T, x', y', rfl, nT, rfl, k1, k2⟩ := yl
  have := k1 vs hq; rw [f1] at this; cases this
  have := k2 us hq'; rw [g1] at this; cases this
  exact pair_ok s1 nT (Dq.mono sf _ _ f2) (Dq.mono sf _ _ g2)
end
theorem seqD_ok {d : D} {xs : List D} (h : seqD d = .ok xs) : d = .list xs ∨ d = .tuple xs := by
  cases d <;> simp [seqD] at h <;> subst h
  · exact .inl rfl
  · exact .inr rfl
section
variable {T : Tb} {Φ : Fs} {w : Wx} {ev : Nat → Value} {s : Sc} {X : Cx} {tg e : Expr} {ta : TA} {te : TE}
theorem pi_seqV (he : PE X e te) : PI X tg e (fun σ H R => te σ H fun x H1 => vI X.K .seq [x] H1 R) := by
  refine ⟨fun pins s σ H R I h => thn (he.run pins s σ H _ I h) fun v s1 q => ?_⟩
  obtain ⟨x, H1, I1, r1, G, F, ds, xs, sf, sg, rb, ed, q⟩ := q
  obtain ⟨d, rfl⟩ : ∃ d, ds = [d] := by
    cases rb with
    | cons _ h2 => cases h2; exact ⟨_, rfl⟩
  have rb := rb.one
  obtain ⟨x', ex, rb⟩ := rb
  cases ex
  simp only [itD] at ed
  rcases seqD_ok ed with rfl | rfl
  · obtain ⟨l, vs, rfl, h1, h2⟩ := rb.list sf
    cases r1
    obtain ⟨its, rv, p, hz⟩ := I1.list (sql_mono sg h1)
    exact wpAny_pyIter_list p.isList (pi_one (tk := s1.toks) I1 _ (turn_list l _) ⟨_, Heap.get?_push_size _ rfl, rfl, rfl⟩ (q _ (itok_list h1 h2)))
  · obtain ⟨l, vs, rfl, h1, h2⟩ := rb.tuple sf
    cases r1
    obtain ⟨its, rv, p, hz⟩ := I1.tuple (sqt_mono sg (sqt_mono sf h1))
    exact wpAny_pyIter_tuple (show s1.heap.IsTuple l its.toArray from p) (pi_one (tk := s1.toks) I1 _ (turn_tuple l _) ⟨_, Heap.get?_push_size _ rfl, rfl, rfl⟩ (q _ (itok_tup h1 h2)))
theorem pi_weak {wi wi' : TI} (h : PI X tg e wi) (hw : ∀ σ H R, wi' σ H R → wi σ H R) : PI X tg e wi' := ⟨fun pins s σ H R I q => h.run pins s σ H R I (hw σ H R q)⟩
theorem RBs.nil_ {K : PySem.W.Frag} {H F : Hp} {xs : List V} (h : RBs K H F xs []) : xs = [] := by cases h; rfl
theorem RBs.three {K : PySem.W.Frag} {H F : Hp} {xs : List V} {d e f : D} (h : RBs K H F xs [d, e, f]) : ∃ x y z, xs = [x, y, z] ∧ RB K H F d x ∧ RB K H F e y ∧ RB K H F f z := by
  cases h with
  | cons h1 h2 =>
    obtain ⟨y, z, rfl, h3, h4⟩ := h2.two
    exact ⟨_, _, _, rfl, h1, h3, h4⟩
theorem PA.len {es : List Expr} {t : TA} (h : PA X es t) : True := trivial
def tLen (n : Nat) (t : TA) : TA := fun σ H Q => t σ H fun vs H1 => vs.length = n → Q vs H1
theorem small_of {i : Int} (h : smallI i = true) : -(2 ^ 62) ≤ i ∧ i < 2 ^ 62 := by
  unfold smallI at h
  simpa using h
theorem rangeSize_nn {i j c : Int} (h : 0 < c) : 0 ≤ Builtin.Range.rangeSize i j c := by
  unfold Builtin.Range.rangeSize
  rw [if_pos (show c > 0 from h)]
  split
  · have : 0 ≤ (j - i - 1) / c := Int.ediv_nonneg (by omega) (by omega)
    omega
  · omega
theorem itD_rng {vs : List V} {ds xs : List D} {K : PySem.W.Frag} {G F : Hp} (h : RBs K G F vs ds) (e : itD .rng ds = .ok xs) :
    (∃ j, vs = [.int j] ∧ -(2 ^ 62) ≤ j ∧ j < 2 ^ 62 ∧ xs = rngD 0 1 j.toNat) ∨ (∃ i j, vs = [.int i, .int j] ∧ (-(2 ^ 62) ≤ i ∧ i < 2 ^ 62 ∧ -(2 ^ 62) ≤ j ∧ j < 2 ^ 62) ∧ xs = rngD i 1 (j - i).toNat) ∨
    (∃ i j c n, vs = [.int i, .int j, .int c] ∧ RgC i j c n ∧ xs = rngD i c n) := by
  unfold itD at e
  split at e
  · contradiction
  · split at e
    · rename_i hs
      obtain ⟨x, rfl, h1⟩ := h.one
      obtain rfl := h1.int
      cases e
      exact .inl ⟨_, rfl, (small_of hs).1, (small_of hs).2, rfl⟩
    · cases e
  · split at e
    · rename_i hs
      obtain ⟨x, y, rfl, h1, h2⟩ := h.two
      obtain rfl := h1.int; obtain rfl := h2.int
      rw [Bool.and_eq_true] at hs
      cases e
      exact .inr (.inl ⟨_, _, rfl, ⟨(small_of hs.1).1, (small_of hs.1).2, (small_of hs.2).1, (small_of hs.2).2⟩, rfl⟩)
    · cases e
  · split at e
    · rename_i hs
      obtain ⟨x, y, z, rfl, h1, h2, h3⟩ := h.three
      obtain rfl := h1.int; obtain rfl := h2.int; obtain rfl := h3.int
      rw [Bool.and_eq_true, Bool.and_eq_true] at hs
      cases e
      have c1 := of_decide_eq_true hs.1.1
      have c2 := of_decide_eq_true hs.1.2
      refine .inr (.inr ⟨_, _, _, _, rfl, ⟨by omega, by omega, hs.2, ?_⟩, rfl⟩)
      rw [Int.toNat_of_nonneg (rangeSize_nn c1)]
    · cases e
  · contradiction
  · contradiction
  · contradiction
  · cases e
end
end Tg
namespace Tg
open PySem PySem.Spec PyProof.Rows L2
theorem wipe_set_out {i : Nat} {x : Option V} : ∀ {vs : List Nat} {σ : L2.St}, i ∉ vs → wipe (σ.set i x) vs = (wipe σ vs).set i x
  | [], _, _ => rfl
  | v :: vs, σ, h => by
    have h1 : i ≠ v := fun e => h (by rw [e]; exact List.mem_cons_self)
    have h2 : i ∉ vs := fun e => h (List.mem_cons_of_mem _ e)
    show (wipe (σ.set i x) vs).set v none = ((wipe σ vs).set v none).set i x
    rw [wipe_set_out h2, List.set_comm _ _ h1]
theorem wipe_set_in {i : Nat} {x : Option V} : ∀ {vs : List Nat} {σ : L2.St}, i ∈ vs → wipe (σ.set i x) vs = wipe σ vs
  | [], _, h => by simp at h
  | v :: vs, σ, h => by
    show (wipe (σ.set i x) vs).set v none = (wipe σ vs).set v none
    by_cases hi : i ∈ vs
    · rw [wipe_set_in hi]
    · rcases List.mem_cons.mp h with rfl | h
      · rw [wipe_set_out hi, List.set_set]
      · exact absurd h hi
theorem wipe_wipe {vs : List Nat} {σ : L2.St} : ∀ {us : List Nat}, (∀ i ∈ us, i ∈ vs) → wipe (wipe σ us) vs = wipe σ vs
  | [], _ => rfl
  | u :: us, h => by
    show wipe ((wipe σ us).set u none) vs = _
    rw [wipe_set_in (h u List.mem_cons_self), wipe_wipe fun i hi => h i (List.mem_cons_of_mem _ hi)]
def gT (K : PySem.W.Frag) (t : Tg) : TG := fun v σ H Q => ∃ H0 F0 F ρ d ρ', StR K H0 F0 σ H F ρ ∧ Dq K F v d ∧ bindT t d ρ = .ok ρ' ∧
  ∀ σ', StR K H0 F0 σ' H F ρ' → (∀ vs, (∀ i ∈ slotsT t, i ∈ vs) → wipe σ' vs = wipe σ vs) → Q σ' H
def gTs (K : PySem.W.Frag) (ts : List Tg) : TGs := fun us σ H Q => ∃ H0 F0 F ρ ds ρ', StR K H0 F0 σ H F ρ ∧ DqAll K F us ds ∧ bindTs ts ds ρ = .ok ρ' ∧
  ∀ σ', StR K H0 F0 σ' H F ρ' → (∀ vs, (∀ i ∈ slotsTs ts, i ∈ vs) → wipe σ' vs = wipe σ vs) → Q σ' H
theorem pg_weak {X : Cx} {e : Expr} {t t' : TG} (h : PG X e t) (hw : ∀ v σ H Q, t' v σ H Q → t v σ H Q) : PG X e t' := ⟨fun pins s σ H v u Q I r q => h.run pins s σ H v u Q I r (hw v σ H Q q)⟩
theorem pgs_weak {X : Cx} {e : List Expr} {t t' : TGs} (h : PGs X e t) (hw : ∀ v σ H Q, t' v σ H Q → t v σ H Q) : PGs X e t' := ⟨fun pins s σ H v u Q I r q => h.run pins s σ H v u Q I r (hw v σ H Q q)⟩
theorem ckTs_all {T : Tb} {s : Sc} : ∀ {ts : List Tg} {es : List Expr}, ckTs T s ts es = true → es.all nst = true ∧ ts.length = es.length
  | [], es, h => by
    cases es with
    | nil => exact ⟨rfl, rfl⟩
    | cons => simp [ckTs] at h
  | t :: ts, es, h => by
    cases es with
    | nil => simp [ckTs] at h
    | cons e es =>
      simp only [ckTs, Bool.and_eq_true] at h
      obtain ⟨i1, i2⟩ := ckTs_all h.2
      refine ⟨by rw [List.all_cons, h.1.1, i1]; rfl, by rw [List.length_cons, List.length_cons, i2]⟩
theorem bindTs_len : ∀ {ts : List Tg} {ds : List D} {ρ ρ' : En}, bindTs ts ds ρ = .ok ρ' → ts.length = ds.length
  | [], ds, ρ, ρ', h => by
    cases ds with
    | nil => rfl
    | cons => simp [bindTs] at h
  | t :: ts, ds, ρ, ρ', h => by
    cases ds with
    | nil => simp [bindTs] at h
    | cons d ds =>
      simp only [bindTs] at h
      cases e : bindT t d ρ with
      | stuck => rw [e] at h; cases h
      | ex c => rw [e] at h; cases h
      | ok ρ1 =>
        rw [e, bind_ok] at h
        rw [List.length_cons, List.length_cons, bindTs_len h]
mutual
theorem bindT_noex : ∀ {t : Tg} {d : D} {ρ : En} {c : Nat}, bindT t d ρ = .ex c → False
  | .nm i, d, ρ, c, h => by simp [bindT] at h
  | .tp ts, d, ρ, c, h => by
    cases d <;> simp only [bindT] at h <;> first | exact bindTs_noex h | cases h
theorem bindTs_noex : ∀ {ts : List Tg} {ds : List D} {ρ : En} {c : Nat}, bindTs ts ds ρ = .ex c → False
  | [], ds, ρ, c, h => by cases ds <;> simp [bindTs] at h
  | t :: ts, ds, ρ, c, h => by
    cases ds with
    | nil => simp [bindTs] at h
    | cons d ds =>
      simp only [bindTs] at h
      cases e : bindT t d ρ with
      | stuck => rw [e] at h; cases h
      | ex c => exact bindT_noex e
      | ok ρ1 => rw [e, bind_ok] at h; exact bindTs_noex h
end
section
variable {T : Tb} {Φ : Fs} {ev : Nat → Value}
mutual
theorem pgT : ∀ (t : Tg) {w : Wx} {s : Sc} {X : Cx} {e : Expr}, Good T Φ w ev s X → ckT T s t e = true → PG X e (gT X.K t)
  | .nm i, w, s, X, e, G, h => by
    cases e <;> simp [ckT] at h
    rename_i x pos
    unfold ckLoc at h
    simp only [Bool.and_eq_true, Bool.or_eq_true, decide_eq_true_eq] at h
    obtain ⟨h1, h2⟩ := h
    have hi : X.N[i]? = some x := by rw [G.N]; exact h1
    have hl : L2.Loc X.env.scope x := by
      unfold L2.Loc; rw [G.sc]
      rcases h2 with h2 | h2
      · exact .inl h2
      · exact .inr h2.1
    have hf : X.fn x = true ∨ X.env.scope.names.lookup x = some .local := by
      rcases h2 with h2 | h2
      · right; rw [G.sc]; exact h2
      · left; rw [G.fn]; exact h2.2
    refine pg_weak (pg_name (by rw [G.N]; exact G.nd) hi hl hf) fun v σ H Q ⟨H0, F0, F, ρ, d, ρ', R, hd, hb, q⟩ => ?_
    simp only [bindT, M.ok.injEq] at hb
    subst hb
    exact q _ (R.setV i hd) fun vs hv => wipe_set_in (hv i (by simp [slotsT]))
  | .tp ts, w, s, X, e, G, h => by
    cases e <;> simp [ckT] at h
    rename_i es k pos
    obtain ⟨hs, hl⟩ := ckTs_all h
    have hp := pgTs ts G h
    refine ⟨fun pins sh σ H v u Q I r q => ?_⟩
    obtain ⟨H0, F0, F, ρ, d, ρ', R, hd, hb, q⟩ := q
    cases hd <;> simp only [bindT] at hb <;> try (cases hb)
    · rename_i a xs ds h1 h2
      refine (pg_lst (n := es.length) G.calm hp (asg_len hs).1 (asg_len hs).2).run pins sh σ H _ u Q I r ⟨a, xs, rfl, sql_mono R.s h1, ?_, H0, F0, F, ρ, ds, ρ', R, h2, hb, q⟩
      rw [h2.length, ← bindTs_len hb, hl]
    · rename_i a xs ds h1 h2
      refine (pg_tup (n := es.length) G.calm hp (asg_len hs).1 (asg_len hs).2).run pins sh σ H _ u Q I r ⟨a, xs, rfl, sqt_mono R.s h1, ?_, H0, F0, F, ρ, ds, ρ', R, h2, hb, q⟩
      rw [h2.length, ← bindTs_len hb, hl]
theorem pgTs : ∀ (ts : List Tg) {w : Wx} {s : Sc} {X : Cx} {es : List Expr}, Good T Φ w ev s X → ckTs T s ts es = true → PGs X es (gTs X.K ts)
  | [], w, s, X, es, G, h => by
    cases es with
    | cons => simp [ckTs] at h
    | nil =>
      refine pgs_weak pgs_nil fun us σ H Q ⟨H0, F0, F, ρ, ds, ρ', R, hd, hb, q⟩ => ?_
      cases ds with
      | cons => simp [bindTs] at hb
      | nil =>
        cases hd
        simp only [bindTs, M.ok.injEq] at hb
        subst hb
        exact ⟨rfl, q σ R fun _ _ => rfl⟩
  | t :: ts, w, s, X, es, G, h => by
    cases es with
    | nil => simp [ckTs] at h
    | cons e es =>
      simp only [ckTs, Bool.and_eq_true] at h
      refine pgs_weak (pgs_cons (pgT t G h.1.2) (pgTs ts G h.2) (by rw [asg_cons h.1.1, List.map_cons])) fun us σ H Q ⟨H0, F0, F, ρ, ds, ρ', R, hd, hb, q⟩ => ?_
      cases ds with
      | nil => simp [bindTs] at hb
      | cons d ds =>
        cases hd with
        | cons hd1 hd2 =>
          simp only [bindTs] at hb
          cases eb : bindT t d ρ with
          | stuck => rw [eb] at hb; cases hb
          | ex c => rw [eb] at hb; cases hb
          | ok ρ1 =>
            rw [eb, bind_ok] at hb
            refine ⟨_, _, rfl, H0, F0, F, ρ, d, ρ1, R, hd1, eb, fun σ1 R1 w1 => ?_⟩
            refine ⟨H0, F0, F, ρ1, ds, ρ', R1, hd2, hb, fun σ2 R2 w2 => q σ2 R2 fun vs hv => ?_⟩
            rw [w2 vs fun i hi => hv i (by simp [slotsTs, hi]), w1 vs fun i hi => hv i (by simp [slotsTs, hi])]
end
end
def AfT (K : PySem.W.Frag) (w : Wx) (σ : L2.St) (H F : Hp) (r : M D) (Q : Bool → Hp → Prop) : Prop := match r with
  | .ok (.bool b) => ∀ H' F', Gr H F H' F' → Q b H'
  | .ok _ => False
  | .ex c => ∀ H' F', Gr H F H' F' → w c σ H'
  | .stuck => False
def tT (K : PySem.W.Frag) (w : Wx) (Φ : Fs) (m : E) : TT := fun σ H Q => ∃ H0 F0 F ρ, StR K H0 F0 σ H F ρ ∧ AfT K w σ H F (bor ρ m (evE Φ ρ m)) Q
def Snd (T : Tb) (Φ : Fs) (ev : Nat → Value) (m : E) : Prop := ∀ (w : Wx) (s : Sc) (X : Cx) (e : Expr), Good T Φ w ev s X → ckE T m s e = true → PE X e (tE X.K w Φ m) ∧ PT X e (tT X.K w Φ m)
theorem pt_weak {X : Cx} {e : Expr} {t t' : TT} (h : PT X e t) (hw : ∀ σ H Q, t' σ H Q → t σ H Q) : PT X e t' := ⟨fun pins s σ H Q I q => h.run pins s σ H Q I (hw σ H Q q)⟩
section
variable {K : PySem.W.Frag} {w : Wx} {σ : L2.St} {H F : Hp}
theorem AfT.toB {r : M D} {Q : Bool → Hp → Prop} (h : AfT K w σ H F r Q) : AfB K w σ H F r (fun x H1 => ∃ c, x = .bl c ∧ Q c H1) := by
  cases r with
  | ok d =>
    cases d with
    | bool b => exact fun v H' F' g rb => ⟨b, rb.bool, h H' F' g⟩
    | _ => exact h.elim
  | ex c => exact h
  | stuck => exact h
end
section
variable {T : Tb} {Φ : Fs} {ev : Nat → Value} {w : Wx} {s : Sc} {X : Cx}
theorem pt_plain {m : E} {e : Expr} (hB : PE X e (tB X.K w Φ m)) (hp : plainT e = true) : PT X e (tT X.K w Φ m) :=
  pt_weak (pt_val hB (plainT_ok hp)) fun σ H Q ⟨H0, F0, F, ρ, R, a⟩ => ⟨H0, F0, F, ρ, R, a.toB⟩
theorem sndL : ∀ {ms : List E} {es : List Expr}, (∀ m ∈ ms, Snd T Φ ev m) → Good T Φ w ev s X → ckL T ms s es = true → PA X es (tL X.K w Φ ms)
  | [], es, _, G, h => by
    cases es with
    | cons => simp [ckL] at h
    | nil => exact pa_weak pa_nil fun σ H Q ⟨H0, F0, F, ρ, R, a⟩ => (show AfL _ _ _ _ _ (.ok []) Q from by simpa only [evL] using a) _ H F (.refl R.s) .nil
  | m :: ms, es, S, G, h => by
    cases es with
    | nil => simp [ckL] at h
    | cons e es =>
      simp only [ckL, Bool.and_eq_true] at h
      refine pa_weak (pa_cons (S m List.mem_cons_self w s X e G h.1).1 (sndL (fun m hm => S m (List.mem_cons_of_mem _ hm)) G h.2) (star_cons (ckE_nst h.1))) fun σ H Q ⟨H0, F0, F, ρ, R, a⟩ => ?_
      simp only [evL] at a
      refine ⟨H0, F0, F, ρ, R, ?_⟩
      cases e1 : evE Φ ρ m with
      | stuck => rw [e1] at a; exact a
      | ex c => rw [e1] at a; exact a
      | ok b =>
        rw [e1, bind_ok] at a
        intro v H1 F1 g1 rp nw
        obtain ⟨F1', g1', dq⟩ := rp.freeze g1 nw
        refine ⟨H0, F0, F1', ρ, R.grow g1', ?_⟩
        cases e2 : evL Φ ρ ms with
        | stuck => rw [e2] at a; exact a
        | ex c => rw [e2] at a; exact fun H' F' g => a H' F' (g1'.trans g)
        | ok ds =>
          rw [e2, bind_ok] at a
          exact fun vs H2 F2 g2 r => a _ H2 F2 (g1'.trans g2) (.cons (Dq.mono g2.f _ _ dq) r)
theorem sndBs : ∀ {ms : List E} {es : List Expr}, (∀ m ∈ ms, Snd T Φ ev m) → Good T Φ w ev s X → ckL T ms s es = true → PA X es (tBs X.K w Φ ms)
  | [], es, _, G, h => by
    cases es with
    | cons => simp [ckL] at h
    | nil => exact pa_weak pa_nil fun σ H Q ⟨H0, F0, F, ρ, R, a⟩ => (show AfBs _ _ _ _ _ (.ok []) Q from by simpa only [evBs] using a) _ H F (.refl R.s) .nil
  | m :: ms, es, S, G, h => by
    cases es with
    | nil => simp [ckL] at h
    | cons e es =>
      simp only [ckL, Bool.and_eq_true] at h
      refine pa_weak (pa_cons (peB G h.1 (S m List.mem_cons_self w s X e G h.1).1) (sndBs (fun m hm => S m (List.mem_cons_of_mem _ hm)) G h.2) (star_cons (ckE_nst h.1))) fun σ H Q ⟨H0, F0, F, ρ, R, a⟩ => ?_
      simp only [evBs] at a
      refine ⟨H0, F0, F, ρ, R, ?_⟩
      cases e1 : bor ρ m (evE Φ ρ m) with
      | stuck => rw [e1] at a; exact a
      | ex c => rw [e1] at a; exact a
      | ok b =>
        rw [e1, bind_ok] at a
        intro v H1 F1 g1 rb
        refine ⟨H0, F0, F1, ρ, R.grow g1, ?_⟩
        cases e2 : evBs Φ ρ ms with
        | stuck => rw [e2] at a; exact a
        | ex c => rw [e2] at a; exact fun H' F' g => a H' F' (g1.trans g)
        | ok ds =>
          rw [e2, bind_ok] at a
          exact fun vs H2 F2 g2 r => a _ H2 F2 (g1.trans g2) (.cons (rb.mono g2) r)
theorem evL_len : ∀ {ms : List E} {ρ : En} {ds : List D}, evL Φ ρ ms = .ok ds → ds.length = ms.length
  | [], ρ, ds, h => by simp only [evL, M.ok.injEq] at h; subst h; rfl
  | m :: ms, ρ, ds, h => by
    simp only [evL] at h
    cases e1 : evE Φ ρ m with
    | stuck => rw [e1] at h; cases h
    | ex c => rw [e1] at h; cases h
    | ok b =>
      rw [e1, bind_ok] at h
      cases e2 : evL Φ ρ ms with
      | stuck => rw [e2] at h; cases h
      | ex c => rw [e2] at h; cases h
      | ok es =>
        rw [e2, bind_ok] at h
        cases h
        rw [List.length_cons, List.length_cons, evL_len e2]
theorem evBs_len : ∀ {ms : List E} {ρ : En} {ds : List D}, evBs Φ ρ ms = .ok ds → ds.length = ms.length
  | [], ρ, ds, h => by simp only [evBs, M.ok.injEq] at h; subst h; rfl
  | m :: ms, ρ, ds, h => by
    simp only [evBs] at h
    cases e1 : bor ρ m (evE Φ ρ m) with
    | stuck => rw [e1] at h; cases h
    | ex c => rw [e1] at h; cases h
    | ok b =>
      rw [e1, bind_ok] at h
      cases e2 : evBs Φ ρ ms with
      | stuck => rw [e2] at h; cases h
      | ex c => rw [e2] at h; cases h
      | ok es =>
        rw [e2, bind_ok] at h
        cases h
        rw [List.length_cons, List.length_cons, evBs_len e2]
end
end Tg
namespace Tg
open PySem PySem.Spec PyProof.Rows L2
theorem Gr.put {H F H' F' : Hp} (g : Gr H F H' F') {p : Addr} {o : HO} (n : H p = none) (f : F' p = none) : Gr H F (upd H' p o) F' := by
  refine ⟨fun b x e => ?_, g.f, fun b x e => ?_, g.n⟩
  · rw [upd_ne (ne_of_none e n)]; exact g.h _ _ e
  · rw [upd_ne (ne_of_none e f)]; exact g.s _ _ e
theorem RBs.len {K : PySem.W.Frag} {H F : Hp} : ∀ {ds : List D} {vs : List V}, RBs K H F vs ds → vs.length = ds.length
  | _, _, .nil => rfl
  | _, _, .cons _ h => by rw [List.length_cons, List.length_cons, RBs.len h]
theorem rbs_of {K : PySem.W.Frag} {F : Hp} : ∀ {ds : List D} {vs : List V}, DqAll K F vs ds → RBs K F F vs ds
  | [], _, h => by cases h; exact .nil
  | d :: ds, _, h => by
    cases h with
    | cons h1 h2 => exact .cons (.inl h1) (rbs_of h2)
def zH (z : Bool) (H F : Hp) : Hp := match z with | true => H | false => F
theorem zH_s {z : Bool} {H F : Hp} (s : Same F H) : Same F (zH z H F) ∧ Same (zH z H F) H := by
  cases z
  · exact ⟨.refl _, s⟩
  · exact ⟨s, .refl _⟩
def evZ (z : Bool) (Φ : Fs) (ρ : En) (ms : List E) : M (List D) := match z with | true => evBs Φ ρ ms | false => evL Φ ρ ms
def AfZ (z : Bool) (K : PySem.W.Frag) (w : Wx) (σ : L2.St) (H F : Hp) (r : M (List D)) (Q : List V → Hp → Prop) : Prop := match r with
  | .ok ds => ∀ vs H' F', Gr H F H' F' → RBs K (zH z H' F') F' vs ds → Q vs H'
  | .ex c => ∀ H' F', Gr H F H' F' → w c σ H'
  | .stuck => False
def tZ (z : Bool) (K : PySem.W.Frag) (w : Wx) (Φ : Fs) (ms : List E) : TA := fun σ H Q => ∃ H0 F0 F ρ, StR K H0 F0 σ H F ρ ∧ AfZ z K w σ H F (evZ z Φ ρ ms) Q
def AfZ1 (z : Bool) (K : PySem.W.Frag) (w : Wx) (σ : L2.St) (H F : Hp) (r : M (List D)) (Q : VK) : Prop := match r with
  | .ok [d] => ∀ v H' F', Gr H F H' F' → RB K (zH z H' F') F' d v → Q v H'
  | .ok _ => False
  | .ex c => ∀ H' F', Gr H F H' F' → w c σ H'
  | .stuck => False
def tZ1 (z : Bool) (K : PySem.W.Frag) (w : Wx) (Φ : Fs) (m : E) : TE := fun σ H Q => ∃ H0 F0 F ρ, StR K H0 F0 σ H F ρ ∧ AfZ1 z K w σ H F (evZ z Φ ρ [m]) Q
def AfI (z : Bool) (K : PySem.W.Frag) (w : Wx) (σ : L2.St) (H F : Hp) (r : M (List D)) (Q : It → Hp → Prop) : Prop := match r with
  | .ok xs => ∀ J H' F', Gr H F H' F' → ItOk K J xs (zH z H' F') F' → Q J H'
  | .ex c => ∀ H' F', Gr H F H' F' → w c σ H'
  | .stuck => False
def tI (z : Bool) (K : PySem.W.Frag) (w : Wx) (Φ : Fs) (k : ItK) (ms : List E) : TI := fun σ H R => ∃ H0 F0 F ρ, StR K H0 F0 σ H F ρ ∧ AfI z K w σ H F (do let ds ← evZ z Φ ρ ms; itD k ds) R
theorem noex_it {k : ItK} {ds : List D} {c : Nat} : itD k ds ≠ .ex c := by
  intro h
  unfold itD at h
  split at h
  · rename_i d
    cases d <;> simp [seqD] at h
  · split at h <;> cases h
  · split at h <;> cases h
  · split at h <;> cases h
  · cases h
  · cases h
  · rename_i d
    cases d <;> simp [seqD] at h
  · cases h
section
variable {T : Tb} {Φ : Fs} {ev : Nat → Value} {w : Wx} {s : Sc} {X : Cx}
theorem sndZ {z : Bool} {ms : List E} {es : List Expr} (S : ∀ m ∈ ms, Snd T Φ ev m) (G : Good T Φ w ev s X) (h : ckL T ms s es = true) : PA X es (tZ z X.K w Φ ms) := by
  cases z with
  | true => exact sndBs S G h
  | false =>
    refine pa_weak (sndL S G h) fun σ H Q ⟨H0, F0, F, ρ, R, a⟩ => ⟨H0, F0, F, ρ, R, ?_⟩
    change AfZ false _ _ _ _ _ (evL Φ ρ ms) Q at a
    cases e : evL Φ ρ ms with
    | stuck => rw [e] at a; exact a
    | ex c => rw [e] at a; exact a
    | ok ds => rw [e] at a; exact fun vs H' F' g dq => a vs H' F' g (rbs_of dq)
theorem sndZ1 {z : Bool} {m : E} {e : Expr} (S : Snd T Φ ev m) (G : Good T Φ w ev s X) (h : ckE T m s e = true) : PE X e (tZ1 z X.K w Φ m) := by
  cases z with
  | true =>
    refine pe_weak (peB G h (S w s X e G h).1) fun σ H Q ⟨H0, F0, F, ρ, R, a⟩ => ⟨H0, F0, F, ρ, R, ?_⟩
    change AfZ1 true _ _ _ _ _ (evBs Φ ρ [m]) Q at a
    simp only [evBs] at a
    cases e : bor ρ m (evE Φ ρ m) with
    | stuck => rw [e] at a; exact a
    | ex c => rw [e] at a; exact a
    | ok d => rw [e] at a; exact a
  | false =>
    refine pe_weak (S w s X e G h).1 fun σ H Q ⟨H0, F0, F, ρ, R, a⟩ => ⟨H0, F0, F, ρ, R, ?_⟩
    change AfZ1 false _ _ _ _ _ (evL Φ ρ [m]) Q at a
    simp only [evL] at a
    cases e : evE Φ ρ m with
    | stuck => rw [e] at a; exact a
    | ex c => rw [e] at a; exact a
    | ok b =>
      rw [e] at a
      intro v H' F' g rp nw
      obtain ⟨F2, g2, dq⟩ := rp.freeze g nw
      exact a v H' F2 g2 (.inl dq)
theorem ckIt_nset {k : ItK} {es : List E} {e : Expr} (h : ckIt T k es s e = true) : nset e = true := by
  cases k with
  | seq => unfold ckIt ckItP at h; dsimp only at h; rw [Bool.and_eq_true] at h; exact h.1
  | rng => cases e <;> first | rfl | (simp [ckIt, ckItP] at h)
  | zip => cases e <;> first | rfl | (simp [ckIt, ckItP] at h)
  | rev => cases e <;> first | rfl | (simp [ckIt, ckItP] at h)
theorem evZ_len {z : Bool} {ms : List E} {ρ : En} {ds : List D} (h : evZ z Φ ρ ms = .ok ds) : ds.length = ms.length := by
  cases z with
  | true => exact evBs_len h
  | false => exact evL_len h
theorem AfI.args {z : Bool} {K : PySem.W.Frag} {k : ItK} {ms : List E} {σ : L2.St} {H F : Hp} {ρ : En} {R : It → Hp → Prop} {Q : List V → Hp → Prop} (a : AfI z K w σ H F (do let ds ← evZ z Φ ρ ms; itD k ds) R)
    (q : ∀ ds xs vs H' F', ds.length = ms.length → itD k ds = .ok xs → Gr H F H' F' → RBs K (zH z H' F') F' vs ds → (∀ J, ItOk K J xs (zH z H' F') F' → R J H') → Q vs H') : AfZ z K w σ H F (evZ z Φ ρ ms) Q := by
  cases e : evZ z Φ ρ ms with
  | stuck => rw [e] at a; exact a
  | ex c => rw [e] at a; exact a
  | ok ds =>
    rw [e, bind_ok] at a
    intro vs H' F' g rb
    cases e2 : itD k ds with
    | stuck => rw [e2] at a; exact a.elim
    | ex c => exact (noex_it e2).elim
    | ok xs =>
      rw [e2] at a
      exact q ds xs vs H' F' (evZ_len e) e2 g rb fun J hJ => a J H' F' g hJ
theorem sndI {z : Bool} {k : ItK} {es : List E} {e tg : Expr} (S : ∀ m ∈ es, Snd T Φ ev m) (G : Good T Φ w ev s X) (h : ckIt T k es s e = true) (hz : k = .zip → ∃ elts kk p, tg = .Tuple elts kk p) : PI X tg e (tI z X.K w Φ k es) := by
  cases k with
  | seq =>
    unfold ckIt ckItP at h
    dsimp only at h
    rw [Bool.and_eq_true] at h
    obtain ⟨m, rfl⟩ : ∃ m, es = [m] := by
      have := ckL_len h.2
      cases es with
      | nil => simp at this
      | cons m r => cases r with
        | nil => exact ⟨m, rfl⟩
        | cons => simp at this
    have h2 := h.2
    simp only [ckL, Bool.and_eq_true] at h2
    refine pi_weak (pi_seqV (sndZ1 (z := z) (S m List.mem_cons_self) G h2.1)) fun σ H R ⟨H0, F0, F, ρ, R0, a⟩ => ⟨H0, F0, F, ρ, R0, ?_⟩
    cases e1 : evZ z Φ ρ [m] with
    | stuck => rw [e1] at a; exact a
    | ex c => rw [e1] at a; exact a
    | ok ds =>
      rw [e1, bind_ok] at a
      have hl := evZ_len e1
      obtain ⟨d, rfl⟩ : ∃ d, ds = [d] := by
        cases ds with
        | nil => simp at hl
        | cons d r => cases r with
          | nil => exact ⟨d, rfl⟩
          | cons => simp at hl
      intro v H' F' g rb
      cases e2 : itD .seq [d] with
      | stuck => rw [e2] at a; exact a.elim
      | ex c => exact (noex_it e2).elim
      | ok xs =>
        rw [e2] at a
        exact ⟨zH z H' F', F', [d], xs, (zH_s g.s).1, (zH_s g.s).2, .cons rb .nil, e2, fun J hJ => a J H' F' g hJ⟩
  | rng =>
    unfold ckIt ckItP at h
    dsimp only at h
    split at h
    rotate_left
    · cases h
    rename_i x p xs pos
    simp only [Bool.and_eq_true, decide_eq_true_eq] at h
    obtain ⟨⟨⟨⟨rfl, hg⟩, h1⟩, h2⟩, hL⟩ := h
    have hgl := gl_of G hg
    have hm := G.blt "range" (by simp [bltNames])
    have hp := sndZ (z := z) S G hL
    have hlen := ckL_len hL
    have hn := ckL_nst hL
    match xs, h1, h2, hp, hlen, hn with
    | [a1], _, _, hp, hlen, hn =>
      simp only [List.all_cons, List.all_nil, Bool.and_true] at hn
      refine pi_weak (pi_range1 hgl.1 hm hp (by rw [star_cons hn]; rfl)) fun σ H R ⟨H0, F0, F, ρ, R0, a⟩ => ⟨H0, F0, F, ρ, R0, a.args fun ds xs vs H' F' hl e2 g rb q => ?_⟩
      have hv : vs.length = 1 := by rw [rb.len, hl, hlen]; rfl
      rcases itD_rng rb e2 with ⟨j, rfl, b1, b2, rfl⟩ | ⟨i, j, rfl, _⟩ | ⟨i, j, c, n, rfl, _⟩
      · exact ⟨j, rfl, b1, b2, q _ itok_rng⟩
      · simp at hv
      · simp at hv
    | [a1, a2], _, _, hp, hlen, hn =>
      simp only [List.all_cons, List.all_nil, Bool.and_true, Bool.and_eq_true] at hn
      refine pi_weak (pi_range2 hgl.1 hm hp (by rw [star_cons hn.1, star_cons hn.2]; rfl) (by rw [star_cons hn.2]; rfl)) fun σ H R ⟨H0, F0, F, ρ, R0, a⟩ => ⟨H0, F0, F, ρ, R0, a.args fun ds xs vs H' F' hl e2 g rb q => ?_⟩
      have hv : vs.length = 2 := by rw [rb.len, hl, hlen]; rfl
      rcases itD_rng rb e2 with ⟨j, rfl, b1, b2, rfl⟩ | ⟨i, j, rfl, b, rfl⟩ | ⟨i, j, c, n, rfl, _⟩
      · simp at hv
      · exact ⟨i, j, rfl, b, q _ itok_rng⟩
      · simp at hv
    | [a1, a2, a3], _, _, hp, hlen, hn =>
      simp only [List.all_cons, List.all_nil, Bool.and_true, Bool.and_eq_true] at hn
      refine pi_weak (pi_range3 hgl.1 hm hp (star_cons hn.1) (star_any (by simp [hn.2.1, hn.2.2]))) fun σ H R ⟨H0, F0, F, ρ, R0, a⟩ => ⟨H0, F0, F, ρ, R0, a.args fun ds xs vs H' F' hl e2 g rb q => ?_⟩
      have hv : vs.length = 3 := by rw [rb.len, hl, hlen]; rfl
      rcases itD_rng rb e2 with ⟨j, rfl, b1, b2, rfl⟩ | ⟨i, j, rfl, b, rfl⟩ | ⟨i, j, c, n, rfl, b, rfl⟩
      · simp at hv
      · simp at hv
      · exact ⟨i, j, c, n, rfl, b, q _ itok_rngC⟩
  | zip =>
    obtain ⟨elts, kk, tp, rfl⟩ := hz rfl
    unfold ckIt ckItP at h
    dsimp only at h
    split at h
    rotate_left
    · cases h
    rename_i x p xs pos
    simp only [Bool.and_eq_true, decide_eq_true_eq] at h
    obtain ⟨⟨⟨rfl, hg⟩, h1⟩, hL⟩ := h
    have hgl := gl_of G hg
    have hm := G.blt "zip" (by simp [bltNames])
    have hp := sndZ (z := z) S G hL
    have hn := ckL_nst hL
    match xs, h1, hp, hn with
    | [a1, a2], _, hp, hn =>
      simp only [List.all_cons, List.all_nil, Bool.and_true, Bool.and_eq_true] at hn
      refine pi_weak (RZ.pi_zipA hgl.1 hm hp (star_cons hn.1) (star_any (by simp [hn.2]))) fun σ H R ⟨H0, F0, F, ρ, R0, a⟩ => ⟨H0, F0, F, ρ, R0, a.args fun ds xs vs H' F' hl e2 g rb q => ?_⟩
      unfold itD at e2
      split at e2 <;> try (first | contradiction | (split at e2 <;> contradiction))
      · obtain ⟨x, y, rfl, r1, r2⟩ := rb.two
        cases e2
        obtain ⟨l, vs, rfl, h1, h2⟩ := r1.list (zH_s g.s).1
        obtain ⟨l', vs', rfl, h1', h2'⟩ := r2.list (zH_s g.s).1
        exact ⟨l, l', vs, vs', rfl, .inl ⟨sql_mono (zH_s g.s).2 h1, sql_mono (zH_s g.s).2 h1', q _ (itok_zipL h1 h2 h1' h2')⟩⟩
      · obtain ⟨x, y, rfl, r1, r2⟩ := rb.two
        cases e2
        obtain ⟨l, vs, rfl, h1, h2⟩ := r1.tuple (zH_s g.s).1
        obtain ⟨l', vs', rfl, h1', h2'⟩ := r2.tuple (zH_s g.s).1
        exact ⟨l, l', vs, vs', rfl, .inr ⟨sqt_mono g.s h1, sqt_mono g.s h1', q _ (itok_zipT h1 h2 h1' h2')⟩⟩
  | rev =>
    unfold ckIt ckItP at h
    dsimp only at h
    split at h
    rotate_left
    · cases h
    rename_i x p xs pos
    simp only [Bool.and_eq_true, decide_eq_true_eq] at h
    obtain ⟨⟨⟨rfl, hg⟩, h1⟩, hL⟩ := h
    have hgl := gl_of G hg
    have hm := G.blt "reversed" (by simp [bltNames])
    have hn := ckL_nst hL
    have hlen := ckL_len hL
    match xs, es, h1, hL, hn, hlen, S with
    | [a1], [m], _, hL, hn, _, S =>
      simp only [List.all_cons, List.all_nil, Bool.and_true] at hn
      simp only [ckL, Bool.and_eq_true] at hL
      refine pi_weak (RT.pi_revA hgl.1 hm (sndZ1 (z := z) (S m List.mem_cons_self) G hL.1) (star_cons hn)) fun σ H R ⟨H0, F0, F, ρ, R0, a⟩ => ⟨H0, F0, F, ρ, R0, ?_⟩
      cases e1 : evZ z Φ ρ [m] with
      | stuck => rw [e1] at a; exact a
      | ex c => rw [e1] at a; exact a
      | ok ds =>
        rw [e1, bind_ok] at a
        have hl := evZ_len e1
        obtain ⟨d, rfl⟩ : ∃ d, ds = [d] := by
          cases ds with
          | nil => simp at hl
          | cons d r => cases r with
            | nil => exact ⟨d, rfl⟩
            | cons => simp at hl
        intro v H' F' g rb
        simp only [itD] at a
        cases e2 : seqD d with
        | stuck => rw [e2] at a; exact a.elim
        | ex c => cases d <;> simp [seqD] at e2
        | ok xs =>
          rw [e2, bind_ok] at a
          rcases seqD_ok e2 with rfl | rfl
          · obtain ⟨l, vs, rfl, h1, h2⟩ := rb.list (zH_s g.s).1
            exact ⟨l, vs, rfl, .inl ⟨sql_mono (zH_s g.s).2 h1, a _ H' F' g (itok_revL h1 h2)⟩⟩
          · obtain ⟨l, vs, rfl, h1, h2⟩ := rb.tuple (zH_s g.s).1
            exact ⟨l, vs, rfl, .inr ⟨sqt_mono g.s h1, a _ H' F' g (itok_revT h1 h2)⟩⟩
end
end Tg
namespace Tg
open PySem PySem.Spec PyProof.Rows L2
section
variable {T : Tb} {Φ : Fs} {ev : Nat → Value} {w : Wx} {s : Sc} {X : Cx}
theorem lcD_noex {f : D → M (Option D)} {c : Nat} : ∀ {xs : List D}, lcD f xs ≠ .ex c
  | [], h => by simp [lcD] at h
  | d :: ds, h => by
    simp only [lcD] at h
    split at h
    · split at h <;> cases h
    · exact lcD_noex h
    · cases h
def condD : List D → M D
  | [] => .ok (.bool true)
  | [d] => .ok d
  | _ => .stuck
def tC (K : PySem.W.Frag) (Φ : Fs) (c : List E) : TT := fun σ H Q => ∃ H0 F0 F ρ, StR K H0 F0 σ H F ρ ∧ AfT K w0 σ H F (do let cs ← evBs Φ ρ c; condD cs) Q
theorem pts_weak {X : Cx} {e : List Expr} {t t' : TT} (h : PTs X e t) (hw : ∀ σ H Q, t' σ H Q → t σ H Q) : PTs X e t' := ⟨fun pins s σ H Q I q => h.run pins s σ H Q I (hw σ H Q q)⟩
theorem sndC {c : List E} {ifs : List Expr} (S : ∀ m ∈ c, Snd T Φ ev m) (G : Good T Φ w0 ev s X) (h : ckL T c s ifs = true) (h1 : ifs.length ≤ 1) : PTs X ifs (tC X.K Φ c) := by
  cases ifs with
  | nil =>
    cases c with
    | cons => simp [ckL] at h
    | nil => exact pts_weak pts_nil fun σ H Q ⟨H0, F0, F, ρ, R, a⟩ => (show AfT _ _ _ _ _ (.ok (.bool true)) Q from by simpa only [evBs, bind_ok, condD] using a) H F (.refl R.s)
  | cons e r =>
    cases r with
    | cons => simp at h1
    | nil =>
      cases c with
      | nil => simp [ckL] at h
      | cons m ms =>
        cases ms with
        | cons => simp [ckL] at h
        | nil =>
          simp only [ckL, Bool.and_eq_true] at h
          refine pts_weak (pts_one (S m List.mem_cons_self w0 s X e G h.1).2) fun σ H Q ⟨H0, F0, F, ρ, R, a⟩ => ⟨H0, F0, F, ρ, R, ?_⟩
          simp only [evBs] at a
          cases e1 : bor ρ m (evE Φ ρ m) with
          | stuck => rw [e1] at a; exact a
          | ex c => rw [e1] at a; exact a
          | ok d => rw [e1] at a; exact a
def lcF (Φ : Fs) (ρ : En) (e : E) (t : Tg) (c : List E) (own : List Nat) (d : D) : M (Option D) := do
  let ρ1 ← bindT t d (wipeN ρ own)
  let cs ← evBs Φ ρ1 c
  turnD cs (evE Φ ρ1 e)
theorem lcF_ok {ρ : En} {e : E} {t : Tg} {c : List E} {own : List Nat} {d : D} {o : Option D} (h : lcF Φ ρ e t c own d = .ok o) :
    ∃ ρ1 b, bindT t d (wipeN ρ own) = .ok ρ1 ∧ (do let cs ← evBs Φ ρ1 c; condD cs) = .ok (.bool b) ∧ (b = true → ∃ x, evE Φ ρ1 e = .ok x ∧ o = some x.d) ∧ (b = false → o = none) := by
  unfold lcF at h
  cases e1 : bindT t d (wipeN ρ own) with
  | stuck => rw [e1] at h; cases h
  | ex c => rw [e1] at h; cases h
  | ok ρ1 =>
    rw [e1, bind_ok] at h
    cases e2 : evBs Φ ρ1 c with
    | stuck => rw [e2] at h; cases h
    | ex c => rw [e2] at h; cases h
    | ok cs =>
      rw [e2, bind_ok] at h
      unfold turnD at h
      split at h
      · refine ⟨ρ1, true, rfl, by rw [e2]; rfl, fun _ => ?_, fun z => (nomatch z)⟩
        cases e3 : evE Φ ρ1 e with
        | stuck => rw [e3] at h; cases h
        | ex c => rw [e3] at h; cases h
        | ok b => rw [e3, bind_ok] at h; cases h; exact ⟨b, rfl, rfl⟩
      · refine ⟨ρ1, true, rfl, by rw [e2]; rfl, fun _ => ?_, fun z => (nomatch z)⟩
        cases e3 : evE Φ ρ1 e with
        | stuck => rw [e3] at h; cases h
        | ex c => rw [e3] at h; cases h
        | ok b => rw [e3, bind_ok] at h; cases h; exact ⟨b, rfl, rfl⟩
      · cases h
        exact ⟨ρ1, false, rfl, by rw [e2]; rfl, fun z => (nomatch z), fun _ => rfl⟩
      · cases h
theorem lcD_cons {f : D → M (Option D)} {d : D} {ds r : List D} (h : lcD f (d :: ds) = .ok r) : ∃ o r', f d = .ok o ∧ lcD f ds = .ok r' ∧ r = (match o with | some x => x :: r' | none => r') := by
  simp only [lcD] at h
  split at h
  · rename_i x e
    split at h
    · rename_i r' e'
      cases h
      exact ⟨some x, r', e, e', rfl⟩
    · cases h
  · rename_i e
    exact ⟨none, r, e, h, rfl⟩
  · cases h
theorem tLc_of {K : PySem.W.Frag} {m : E} {t : Tg} {k : ItK} {es c : List E} {own : List Nat} {σ : L2.St} {H : Hp} {Q : VK} (ho : ∀ i ∈ slotsT t, i ∈ own)
    (h : tE K w Φ (.lc m t k es c own) σ H Q) : tLc (tI true K w Φ k es) (gT K t) (tC K Φ c) (tE K w0 Φ m) own σ H Q := by
  obtain ⟨H0, F0, F, ρ, R0, a⟩ := h
  refine ⟨H0, F0, F, ρ, R0, ?_⟩
  have a : AfE K w σ H F (do let ds ← evBs Φ ρ es; let xs ← itD k ds; if lineOk xs.length then (do let r ← lcD (lcF Φ ρ m t c own) xs; .ok (.own r)) else .stuck) Q := by
    simp only [evE] at a
    exact a
  change AfI true K w σ H F (do let ds ← evBs Φ ρ es; itD k ds) _
  cases e1 : evBs Φ ρ es with
  | stuck => rw [e1] at a; exact a
  | ex c => rw [e1] at a; exact a
  | ok ds =>
    rw [e1, bind_ok] at a
    rw [bind_ok]
    cases e2 : itD k ds with
    | stuck => rw [e2] at a; exact a
    | ex c => exact (noex_it e2).elim
    | ok xs =>
      rw [e2, bind_ok] at a
      split at a
      rotate_left
      · exact a.elim
      rename_i hline
      have hline := line_ok hline
      cases e3 : lcD (lcF Φ ρ m t c own) xs with
      | stuck => rw [e3] at a; exact a.elim
      | ex c => exact (lcD_noex e3).elim
      | ok r =>
        rw [e3, bind_ok] at a
        intro J H1 F1 g1 hIt Dd hD
        refine ⟨fun i mm H2 => mm = xs.length - i ∧ i ≤ xs.length ∧ ∃ F2 acc rs rest, Gr H1 F1 H2 F2 ∧ F2 Dd = none ∧ H2 Dd = some (.lst acc) ∧ DqAll K F2 acc rs ∧ rs.length ≤ i ∧ lcD (lcF Φ ρ m t c own) (xs.drop i) = .ok rest ∧ rs ++ rest = r,
          ⟨xs.length, by simp, Nat.zero_le _, F1, [], [], r, .mine g1.s hD, g1.s.free hD, upd_same, .nil, Nat.le_refl _, e3, rfl⟩, ?_⟩
        rintro i mm H2 ⟨rfl, hi, F2, acc, rs, rest, g2, fD, hD2, dqs, hlen, erest, er⟩
        have hit := hIt i H2 F2 g2.h g2.f g2.s
        by_cases hlt : i < xs.length
        · have ed : xs.drop i = xs[i] :: xs.drop (i + 1) := (List.getElem_cons_drop hlt).symm
          rw [ed] at erest
          obtain ⟨o, rest', ef, erest', eo⟩ := lcD_cons erest
          obtain ⟨ρ1, b, eb, ec, ht, hf⟩ := lcF_ok ef
          obtain ⟨hgo, hy⟩ := hit.1 xs[i] (List.getElem?_eq_getElem hlt)
          refine .inr ⟨hgo, fun H' => ∃ F2 acc rs rest, Gr H1 F1 H' F2 ∧ F2 Dd = none ∧ H' Dd = some (.lst acc) ∧ DqAll K F2 acc rs ∧ rs.length ≤ i + 1 ∧ lcD (lcF Φ ρ m t c own) (xs.drop (i + 1)) = .ok rest ∧ rs ++ rest = r,
            fun H' q => ⟨xs.length - (i + 1), by omega, rfl, hlt, q⟩, fun x H3 y => ?_⟩
          obtain ⟨F3, g3, dq⟩ := hy x H3 y
          refine ⟨H0, F0, F3, wipeN ρ own, xs[i], ρ1, (((R0.grow g1).grow g2).grow g3).wipe own, dq, eb, fun σ' R' w' => ⟨?_, ?_⟩⟩
          · rw [w' own ho, wipe_wipe fun i hi => hi]
          refine ⟨H0, F0, F3, ρ1, R', ?_⟩
          rw [ec]
          intro H4 F4 g4
          cases b with
          | false =>
            rw [if_neg Bool.false_ne_true]
            have := hf rfl
            subst this
            simp only at eo
            subst eo
            have g := g3.trans g4
            exact ⟨F4, acc, rs, rest, g2.trans g, g.n Dd (by rw [hD2]; exact fun z => nomatch z) fD, g.h _ _ hD2, DqAll.mono g.f _ _ dqs, by omega, erest', er⟩
          | true =>
            rw [if_pos rfl]
            obtain ⟨xb, ex, eo2⟩ := ht rfl
            subst eo2
            simp only at eo
            refine ⟨H0, F0, F4, ρ1, R'.grow g4, ?_⟩
            rw [ex]
            intro v H5 F5 g5 rp nw
            obtain ⟨F6, g6, dq6⟩ := rp.freeze g5 nw
            have g := (g3.trans g4).trans g6
            have n6 : F6 Dd = none := g.n Dd (by rw [hD2]; exact fun z => nomatch z) fD
            refine ⟨acc, g.h _ _ hD2, by rw [dqs.length]; omega, F6, acc ++ [v], rs ++ [xb.d], rest', (g2.trans g).put hD n6, n6, upd_same, (DqAll.mono g.f _ _ dqs).app (.cons dq6 .nil), by rw [List.length_append, List.length_singleton]; omega, erest', ?_⟩
            rw [← er, eo, List.append_assoc]; rfl
        · have ei : i = xs.length := by omega
          refine .inl ⟨hit.2 ei, ?_⟩
          subst ei
          rw [List.drop_length] at erest
          simp only [lcD, M.ok.injEq] at erest
          subst erest
          rw [List.append_nil] at er
          subst er
          exact a (.ref Dd) H2 F2 (g1.trans g2) ⟨Dd, acc, rfl, hD2, fD, dqs⟩ ⟨Dd, rfl, g1.h.free hD⟩
theorem snd_lcP {m : E} {t : Tg} {k : ItK} {es c : List E} {own : List Nat} (S1 : Snd T Φ ev m) (S2 : ∀ x ∈ es, Snd T Φ ev x) (S3 : ∀ x ∈ c, Snd T Φ ev x) {e : Expr} (G : Good T Φ w ev s X) (h : ckE T (.lc m t k es c own) s e = true) :
    ∃ elt tg iter ifs scope pos, e = .ListComp elt [⟨tg, iter, ifs, 0⟩] scope pos ∧ PI X tg iter (tI true X.K w Φ k es) ∧ BlkOk X.N X.env.scope scope (ownOf T own) ∧
      (∀ (s : Shared) (H : Hp) (C : Addr) (cl : List (Str × Addr)) (fp : List Addr), PG (X.blk s H scope (compEnvC scope cl C X.env) fp) tg (gT X.K t)) ∧
      (∀ (s : Shared) (H : Hp) (C : Addr) (cl : List (Str × Addr)) (fp : List Addr), PTs (X.blk s H scope (compEnvC scope cl C X.env) fp) ifs (tC X.K Φ c)) ∧
      (∀ (s : Shared) (H : Hp) (C : Addr) (cl : List (Str × Addr)) (fp : List Addr), PE (X.blk s H scope (compEnvC scope cl C X.env) fp) elt (tE X.K w0 Φ m)) ∧
      nset iter = true ∧ (ownOf T own).map (·.2) = own ∧ ∀ i ∈ slotsT t, i ∈ own := by
  unfold ckE at h
  split at h
  rotate_left
  · cases h
  rename_i elt tg iter ifs scope pos
  simp only [Bool.and_eq_true, decide_eq_true_eq] at h
  obtain ⟨⟨⟨⟨⟨⟨⟨h2, h3⟩, h4⟩, h5⟩, h6⟩, h7⟩, h8⟩, h9⟩ := h
  refine ⟨elt, tg, iter, ifs, scope, pos, rfl, sndI S2 G h3 (fun e => ?_), ?_, fun sh H C cl fp => pgT t G.blk h6, fun sh H C cl fp => sndC S3 G.blk h8 h7, fun sh H C cl fp => (S1 w0 _ _ elt G.blk h9).1, ckIt_nset h3, ownOf_snd T own, fun i hi => ?_⟩
  · subst e
    cases tg <;> simp at h4
    exact ⟨_, _, _, rfl⟩
  · rw [G.N, G.sc]; exact blkOk_by h2
  · have := List.all_eq_true.mp h5 i hi
    simpa using this
theorem snd_lc {m : E} {t : Tg} {k : ItK} {es c : List E} {own : List Nat} (S1 : Snd T Φ ev m) (S2 : ∀ x ∈ es, Snd T Φ ev x) (S3 : ∀ x ∈ c, Snd T Φ ev x) {e : Expr} (G : Good T Φ w ev s X) (h : ckE T (.lc m t k es c own) s e = true) :
    PE X e (tE X.K w Φ (.lc m t k es c own)) := by
  obtain ⟨elt, tg, iter, ifs, scope, pos, rfl, hi, ok, hg, ht, he, hn, ho, hs⟩ := snd_lcP S1 S2 S3 G h
  refine pe_weak (pe_lc G.calm (by rw [G.N]; exact G.nd) hi ok hg ht he (nset_fold hn)) fun σ H Q q => ?_
  rw [ho]
  exact tLc_of hs q
end
end Tg
namespace Tg
open PySem PySem.Spec PyProof.Rows L2
section
variable {K : PySem.W.Frag} {w : Wx} {σ : L2.St} {H F : Hp}
theorem AfE.flat {d : D} {v : V} {Q : VK} (a : AfE K w σ H F (.ok (.val d)) Q) (s : Same F H) (h : Dq K F v d) : Q v H := a v H F (.refl s) h trivial
theorem AfV.ofE {H' F' : Hp} {r : M B} {Q : VK} (g : Gr H F H' F') (hr : ∀ c, r ≠ .ex c) (a : AfE K w σ H F r Q) : AfV K H' F' r Q := by
  cases r with
  | stuck => exact a
  | ex c => exact (hr c rfl).elim
  | ok b => exact fun v H2 F2 g2 rp nw => a v H2 F2 (g.trans g2) rp (nw.back g.h)
end
theorem pw_of {X : Cx} {op : BoolOp} {xs : List Expr} {p : Pos} {t : TT} (h : PT X (.BoolOp op xs p) t) : PW X (.BoolOp op xs p) t := ⟨fun _ pins s σ H Q I q => h.run pins s σ H Q I q⟩
section
variable {T : Tb} {Φ : Fs} {ev : Nat → Value}
theorem snd_plain {m : E} (hp : ∀ s e, ckE T m s e = true → plainT e = true) (h : ∀ (w : Wx) (s : Sc) (X : Cx) (e : Expr), Good T Φ w ev s X → ckE T m s e = true → PE X e (tE X.K w Φ m)) : Snd T Φ ev m :=
  fun w s X e G hk => ⟨h w s X e G hk, pt_plain (peB G hk (h w s X e G hk)) (hp s e hk)⟩
theorem snd_var (i : Nat) : Snd T Φ ev (.var i) := snd_plain (fun s e h => by cases e <;> first | rfl | simp [ckE] at h) fun w s X e G h => by
  cases e <;> simp [ckE] at h
  exact pe_varE G h
theorem snd_con (d : D) : Snd T Φ ev (.con d) := snd_plain (fun s e h => by cases e <;> first | rfl | simp [ckE] at h) fun w s X e G h => by
  cases e <;> simp [ckE] at h
  rename_i c j pos
  have fin : ∀ {v : V} {σ : L2.St} {H : Hp} {Q : VK}, (∀ F, Dq X.K F v d) → tE X.K w Φ (.con d) σ H Q → Q v H := fun hd ⟨H0, F0, F, ρ, R, a⟩ => (show AfE X.K w _ _ F (.ok (.val d)) _ from by simpa only [evE] using a).flat R.s (hd F)
  cases d <;> cases c <;> simp [ckC] at h
  · exact pe_weak pe_non fun σ H Q q => fin (fun F => .non) q
  · subst h; exact pe_weak pe_bl fun σ H Q q => fin (fun F => .bl _) q
  · subst h; exact pe_weak pe_int fun σ H Q q => fin (fun F => .int _) q
  · subst h; exact pe_weak pe_str fun σ H Q q => fin (fun F => .str _) q
theorem snd_glob (k : Nat) (d : D) : Snd T Φ ev (.glob k d) := snd_plain (fun s e h => by cases e <;> first | rfl | simp [ckE] at h) fun w s X e G h => by
  cases e <;> simp only [ckE] at h <;> try (cases h)
  rename_i x pos
  rw [Bool.and_eq_true] at h
  obtain ⟨h1, h2⟩ := h
  split at h2
  · rename_i p hp
    rw [Bool.and_eq_true] at h2
    have e1 : p.1 = x := of_decide_eq_true h2.1
    have e2 := eqD_eq h2.2
    obtain ⟨v, u, hm, r, hd⟩ := G.con k x d (by rw [hp, ← e1, ← e2])
    exact pe_weak (pe_glob (gl_of G h1).1 hm r (gl_of G h1).2) fun σ H Q ⟨H0, F0, F, ρ, R, a⟩ => (show AfE X.K w _ _ F (.ok (.val d)) _ from by simpa only [evE] using a).flat R.s (hd F)
  · cases h2
theorem line_small {n : Nat} (h : n < 1000) : n ≤ sizeLine := by rw [sizeLine_eq]; omega
theorem snd_tup {es : List E} (S : ∀ m ∈ es, Snd T Φ ev m) : Snd T Φ ev (.tup es) := snd_plain (fun s e h => by cases e <;> first | rfl | simp [ckE] at h) fun w s X e G h => by
  cases e <;> simp only [ckE] at h <;> try (cases h)
  rename_i xs k pos
  rw [Bool.and_eq_true] at h
  refine pe_weak (pe_tup (sndL S G h.2)) fun σ H Q ⟨H0, F0, F, ρ, R, a⟩ => ⟨H0, F0, F, ρ, R, ?_⟩
  simp only [evE] at a
  cases e1 : evL Φ ρ es with
  | stuck => rw [e1] at a; exact a
  | ex c => rw [e1] at a; exact a
  | ok ds =>
    rw [e1, bind_ok] at a
    intro vs H1 F1 g1 dq
    refine ⟨by rw [dq.length, evL_len e1]; exact line_small (of_decide_eq_true h.1), fun p hp => ?_⟩
    exact a _ _ _ (g1.trans (.lay g1.s hp)) (.tup (.of upd_same) (DqAll.mono (same_new (g1.s.free hp)) _ _ dq)) trivial
theorem snd_lst {es : List E} (S : ∀ m ∈ es, Snd T Φ ev m) : Snd T Φ ev (.lst es) := snd_plain (fun s e h => by cases e <;> first | rfl | simp [ckE] at h) fun w s X e G h => by
  cases e <;> simp only [ckE] at h <;> try (cases h)
  rename_i xs pos
  rw [Bool.and_eq_true] at h
  refine pe_weak (pe_lst (sndL S G h.2)) fun σ H Q ⟨H0, F0, F, ρ, R, a⟩ => ⟨H0, F0, F, ρ, R, ?_⟩
  simp only [evE] at a
  cases e1 : evL Φ ρ es with
  | stuck => rw [e1] at a; exact a
  | ex c => rw [e1] at a; exact a
  | ok ds =>
    rw [e1, bind_ok] at a
    intro vs H1 F1 g1 dq
    refine ⟨by rw [dq.length, evL_len e1]; exact line_small (of_decide_eq_true h.1), fun p hp => ?_⟩
    exact a _ _ _ (g1.trans (.mine g1.s hp)) ⟨p, vs, rfl, upd_same, g1.s.free hp, dq⟩ ⟨p, rfl, g1.h.free hp⟩
theorem snd_rep {es : List E} {b : E} (S : ∀ m ∈ es, Snd T Φ ev m) (Sb : Snd T Φ ev b) : Snd T Φ ev (.rep es b) := snd_plain (fun s e h => by unfold ckE at h; split at h <;> first | rfl | cases h) fun w s X e G h => by
  unfold ckE at h
  split at h
  rotate_left
  · cases h
  rename_i xs p0 y pos
  simp only [Bool.and_eq_true] at h
  refine pe_weak (pe_op op_repD (pe_lst (sndL S G h.1.2)) (peB G h.2 (Sb w s X y G h.2).1)) fun σ H Q ⟨H0, F0, F, ρ, R, a⟩ => ?_
  simp only [evE] at a
  refine ⟨H0, F0, F, ρ, R, ?_⟩
  cases e1 : evL Φ ρ es with
  | stuck => rw [e1] at a; exact a
  | ex c => rw [e1] at a; exact a
  | ok ds =>
    rw [e1, bind_ok] at a
    intro vs H1 F1 g1 dq
    refine ⟨by rw [dq.length, evL_len e1]; exact line_small (of_decide_eq_true h.1.1), fun p hp => ?_⟩
    have g1' := g1.trans (.mine (o := .lst vs) g1.s hp)
    refine ⟨H0, F0, F1, ρ, R.grow g1', ?_⟩
    cases e2 : bor ρ b (evE Φ ρ b) with
    | stuck => rw [e2] at a; exact a
    | ex c => rw [e2] at a; exact fun H' F' g => a H' F' (g1'.trans g)
    | ok d =>
      rw [e2, bind_ok] at a
      intro v H2 F2 g2 rb
      exact ⟨F2, p, vs, ds, d, g2.s, rfl, g2.h _ _ upd_same, DqAll.mono g2.f _ _ dq, rb, AfV.ofE (g1'.trans g2) (fun c => noex_rep) a⟩
theorem opB_op {o : BOp} {p : Operator} (h : opB o p = true) : p = o.op := by cases o <;> cases p <;> first | rfl | cases h
theorem opC_op {o : COp} {p : CmpOp} (h : opC o p = true) : p = o.op := by cases o <;> cases p <;> first | rfl | cases h
theorem snd_bop {o : BOp} {a b : E} (Sa : Snd T Φ ev a) (Sb : Snd T Φ ev b) : Snd T Φ ev (.bop o a b) := snd_plain (fun s e h => by cases e <;> first | rfl | simp [ckE] at h) fun w s X e G h => by
  cases e <;> simp only [ckE] at h <;> try (cases h)
  rename_i x p y pos
  simp only [Bool.and_eq_true] at h
  rw [opB_op h.1.1]
  refine pe_weak (pe_op (op_bop o) (peB G h.1.2 (Sa w s X x G h.1.2).1) (peB G h.2 (Sb w s X y G h.2).1)) fun σ H Q ⟨H0, F0, F, ρ, R, q⟩ => ?_
  exact two_r2 (fun _ _ _ => noex_bop) R (by simpa only [evE] using q)
theorem snd_cmp {o : COp} {a b : E} (Sa : Snd T Φ ev a) (Sb : Snd T Φ ev b) : Snd T Φ ev (.cmp o a b) := fun w s X e G h => by
  unfold ckE at h
  split at h
  rotate_left
  · cases h
  rename_i x p y pos
  simp only [Bool.and_eq_true] at h
  obtain ⟨⟨⟨h1, h2⟩, h3⟩, h4⟩ := h
  rw [opC_op h1]
  have pa := peB G h3 (Sa w s X x G h3).1
  have pb := peB G h4 (Sb w s X y G h4).1
  refine ⟨pe_weak (pe_cmpR (op_cmp G.units o) pa pb (nset_mark h2)) fun σ H Q ⟨H0, F0, F, ρ, R, q⟩ => ?_, pt_weak (pt_cmpR (op_cmp G.units o) pa pb (nset_mark h2)) fun σ H Q ⟨H0, F0, F, ρ, R, q⟩ => ?_⟩
  · exact two_r2 (fun _ _ _ => noex_cmp) R (by simpa only [evE] using q)
  · rw [bor_ne (m := .cmp o a b) (fun i z => by cases z)] at q
    exact two_r2 (fun _ _ _ => noex_cmp) R (by simpa only [evE] using q.toB.toE)
theorem snd_ix {a b : E} (Sa : Snd T Φ ev a) (Sb : Snd T Φ ev b) : Snd T Φ ev (.ix a b) := snd_plain (fun s e h => by cases e <;> first | rfl | simp [ckE] at h) fun w s X e G h => by
  cases e <;> simp only [ckE] at h <;> try (cases h)
  rename_i x y pos
  simp only [Bool.and_eq_true] at h
  refine pe_weak (pe_ix ix_all (peB G h.1.2 (Sa w s X x G h.1.2).1) (peB G h.2 (Sb w s X y G h.2).1) (plainIx_ok h.1.1)) fun σ H Q ⟨H0, F0, F, ρ, R, q⟩ => ?_
  exact two_r2 (fun _ _ _ => noex_ix) R (by simpa only [evE] using q)
theorem snd_neg {a : E} (Sa : Snd T Φ ev a) : Snd T Φ ev (.neg a) := fun w s X e G h => by
  unfold ckE at h
  split at h
  rotate_left
  · cases h
  rename_i x pos
  have key : PE X (.UnaryOp .USub x pos) (tE X.K w Φ (.neg a)) := by
    refine pe_weak (pe_un un_neg (peB G h (Sa w s X x G h).1)) fun σ H Q ⟨H0, F0, F, ρ, R, q⟩ => ⟨H0, F0, F, ρ, R, ?_⟩
    simp only [evE] at q
    cases e1 : bor ρ a (evE Φ ρ a) with
    | stuck => rw [e1] at q; exact q
    | ex c => rw [e1] at q; exact q
    | ok d =>
      rw [e1, bind_ok] at q
      intro v H1 F1 g1 rb
      unfold negD at q
      split at q
      · obtain rfl := rb.int
        exact ⟨_, rfl, q _ _ _ g1 (.int _) trivial⟩
      · exact q.elim
  refine ⟨key, ?_⟩
  exact pt_weak (pt_val (peB G (by unfold ckE; exact h) key) (fun _ => rfl)) fun σ H Q ⟨H0, F0, F, ρ, R, a⟩ => ⟨H0, F0, F, ρ, R, a.toB⟩
theorem snd_not {a : E} (Sa : Snd T Φ ev a) : Snd T Φ ev (.not a) := fun w s X e G h => by
  unfold ckE at h
  split at h
  rotate_left
  · cases h
  rename_i x pos
  refine ⟨pe_weak (pe_not (peB G h (Sa w s X x G h).1)) fun σ H Q ⟨H0, F0, F, ρ, R, q⟩ => ⟨H0, F0, F, ρ, R, ?_⟩, pt_weak (pt_not (Sa w s X x G h).2) fun σ H Q ⟨H0, F0, F, ρ, R, q⟩ => ⟨H0, F0, F, ρ, R, ?_⟩⟩
  · simp only [evE] at q
    cases e1 : bor ρ a (evE Φ ρ a) with
    | stuck => rw [e1] at q; exact q
    | ex c => rw [e1] at q; exact q
    | ok d =>
      rw [e1, bind_ok] at q
      intro v H1 F1 g1 rb
      unfold notD at q
      split at q
      · obtain rfl := rb.bool
        exact ⟨_, rfl, q _ _ _ g1 (.bl _) trivial⟩
      · exact q.elim
  · rw [bor_ne (m := .not a) (fun i z => by cases z)] at q
    simp only [evE] at q
    cases e1 : bor ρ a (evE Φ ρ a) with
    | stuck => rw [e1] at q; exact q
    | ex c => rw [e1] at q; exact q
    | ok d =>
      rw [e1, bind_ok] at q
      unfold notD at q
      split at q
      · exact q
      · exact q.elim
theorem rest_of {op : BoolOp} {b : E} (Sb : Snd T Φ ev b) {w : Wx} {s : Sc} {X : Cx} (G : Good T Φ w ev s X) {y : Expr} {r : List Expr} {p : Pos} (hop : op = .And ∨ op = .Or)
    (h : (if r.isEmpty then ckE T b s y else ckE T b s (.BoolOp op (y :: r) p)) = true) : PE X (.BoolOp op (y :: r) p) (tE X.K w Φ b) ∧ PW X (.BoolOp op (y :: r) p) (tT X.K w Φ b) := by
  cases r with
  | nil =>
    rw [List.isEmpty_nil, if_pos rfl] at h
    obtain ⟨h1, h2⟩ := Sb w s X y G h
    refine ⟨pe_one h1, ?_⟩
    rcases hop with rfl | rfl
    · exact pw_and1 h2
    · exact pw_or1 h2
  | cons z r =>
    rw [List.isEmpty_cons, if_neg Bool.false_ne_true] at h
    obtain ⟨h1, h2⟩ := Sb w s X _ G h
    exact ⟨h1, pw_of h2⟩
theorem snd_and {a b : E} (Sa : Snd T Φ ev a) (Sb : Snd T Φ ev b) : Snd T Φ ev (.and a b) := fun w s X e G h => by
  unfold ckE at h
  split at h
  rotate_left
  · cases h
  rename_i x y r p
  simp only [Bool.and_eq_true] at h
  obtain ⟨hb1, hb2⟩ := rest_of Sb G (.inl rfl) h.2
  obtain ⟨ha1, ha2⟩ := Sa w s X x G h.1
  refine ⟨pe_weak (pe_and (peB G h.1 ha1) hb1) fun σ H Q ⟨H0, F0, F, ρ, R, q⟩ => ⟨H0, F0, F, ρ, R, ?_⟩, (pw_and ha2 hb2).pt |> fun z => pt_weak z fun σ H Q ⟨H0, F0, F, ρ, R, q⟩ => ⟨H0, F0, F, ρ, R, ?_⟩⟩
  · simp only [evE] at q
    cases e1 : bor ρ a (evE Φ ρ a) with
    | stuck => rw [e1] at q; exact q
    | ex c => rw [e1] at q; exact q
    | ok d =>
      rw [e1, bind_ok] at q
      intro v H1 F1 g1 rb
      unfold andD at q
      split at q
      · obtain rfl := rb.bool
        refine ⟨true, rfl, ?_⟩
        rw [if_pos rfl]
        refine ⟨H0, F0, F1, ρ, R.grow g1, ?_⟩
        cases e2 : evE Φ ρ b with
        | stuck => rw [e2] at q; exact q
        | ex c => rw [e2] at q; exact fun H' F' g => q H' F' (g1.trans g)
        | ok b' => rw [e2] at q; exact fun v H2 F2 g2 rp nw => q v H2 F2 (g1.trans g2) rp (nw.back g1.h)
      · obtain rfl := rb.bool
        refine ⟨false, rfl, ?_⟩
        rw [if_neg Bool.false_ne_true]
        exact q _ _ _ g1 (.bl _) trivial
      · exact q.elim
  · rw [bor_ne (m := .and a b) (fun i z => by cases z)] at q
    simp only [evE] at q
    cases e1 : bor ρ a (evE Φ ρ a) with
    | stuck => rw [e1] at q; exact q
    | ex c => rw [e1] at q; exact q
    | ok d =>
      rw [e1, bind_ok] at q
      unfold andD at q
      split at q
      · intro H1 F1 g1
        rw [if_pos rfl]
        refine ⟨H0, F0, F1, ρ, R.grow g1, ?_⟩
        have q' : AfT X.K w σ H F (valM (evE Φ ρ b)) Q := q
        by_cases hv : ∃ i, b = .var i
        · obtain ⟨i, rfl⟩ := hv
          simp only [evE, bor, lookE, lookB, valM] at q' ⊢
          split at q'
          · rename_i d e3
            simp only [e3]
            rw [bind_ok] at q'
            cases d <;> first | exact q'.elim | exact fun H2 F2 g2 => q' H2 F2 (g1.trans g2)
          · exact q'.elim
        · rw [bor_ne fun i z => hv ⟨i, z⟩]
          cases e2 : evE Φ ρ b with
          | stuck => rw [e2] at q'; exact q'
          | ex c => rw [e2] at q'; exact fun H' F' g => q' H' F' (g1.trans g)
          | ok b' =>
            rw [e2] at q'
            change AfT _ _ _ _ _ (.ok b'.d) _ at q'
            change AfT _ _ _ _ _ (.ok b'.d) _
            cases hd : b'.d <;> rw [hd] at q' <;> first | exact q'.elim | exact fun H2 F2 g2 => q' H2 F2 (g1.trans g2)
      · intro H1 F1 g1
        rw [if_neg Bool.false_ne_true]
        exact q H1 F1 g1
      · exact q.elim
theorem snd_or {a b : E} (Sa : Snd T Φ ev a) (Sb : Snd T Φ ev b) : Snd T Φ ev (.or a b) := fun w s X e G h => by
  unfold ckE at h
  split at h
  rotate_left
  · cases h
  rename_i x y r p
  simp only [Bool.and_eq_true] at h
  obtain ⟨hb1, hb2⟩ := rest_of Sb G (.inr rfl) h.2
  obtain ⟨ha1, ha2⟩ := Sa w s X x G h.1
  refine ⟨pe_weak (pe_or (peB G h.1 ha1) hb1) fun σ H Q ⟨H0, F0, F, ρ, R, q⟩ => ⟨H0, F0, F, ρ, R, ?_⟩, (pw_or ha2 hb2).pt |> fun z => pt_weak z fun σ H Q ⟨H0, F0, F, ρ, R, q⟩ => ⟨H0, F0, F, ρ, R, ?_⟩⟩
  · simp only [evE] at q
    cases e1 : bor ρ a (evE Φ ρ a) with
    | stuck => rw [e1] at q; exact q
    | ex c => rw [e1] at q; exact q
    | ok d =>
      rw [e1, bind_ok] at q
      intro v H1 F1 g1 rb
      unfold orD at q
      split at q
      · obtain rfl := rb.bool
        refine ⟨false, rfl, ?_⟩
        rw [if_neg Bool.false_ne_true]
        refine ⟨H0, F0, F1, ρ, R.grow g1, ?_⟩
        cases e2 : evE Φ ρ b with
        | stuck => rw [e2] at q; exact q
        | ex c => rw [e2] at q; exact fun H' F' g => q H' F' (g1.trans g)
        | ok b' => rw [e2] at q; exact fun v H2 F2 g2 rp nw => q v H2 F2 (g1.trans g2) rp (nw.back g1.h)
      · obtain rfl := rb.bool
        refine ⟨true, rfl, ?_⟩
        rw [if_pos rfl]
        exact q _ _ _ g1 (.bl _) trivial
      · exact q.elim
  · rw [bor_ne (m := .or a b) (fun i z => by cases z)] at q
    simp only [evE] at q
    cases e1 : bor ρ a (evE Φ ρ a) with
    | stuck => rw [e1] at q; exact q
    | ex c => rw [e1] at q; exact q
    | ok d =>
      rw [e1, bind_ok] at q
      unfold orD at q
      split at q
      · intro H1 F1 g1
        rw [if_neg Bool.false_ne_true]
        refine ⟨H0, F0, F1, ρ, R.grow g1, ?_⟩
        have q' : AfT X.K w σ H F (valM (evE Φ ρ b)) Q := q
        by_cases hv : ∃ i, b = .var i
        · obtain ⟨i, rfl⟩ := hv
          simp only [evE, bor, lookE, lookB, valM] at q' ⊢
          split at q'
          · rename_i d e3
            simp only [e3]
            rw [bind_ok] at q'
            cases d <;> first | exact q'.elim | exact fun H2 F2 g2 => q' H2 F2 (g1.trans g2)
          · exact q'.elim
        · rw [bor_ne fun i z => hv ⟨i, z⟩]
          cases e2 : evE Φ ρ b with
          | stuck => rw [e2] at q'; exact q'
          | ex c => rw [e2] at q'; exact fun H' F' g => q' H' F' (g1.trans g)
          | ok b' =>
            rw [e2] at q'
            change AfT _ _ _ _ _ (.ok b'.d) _ at q'
            change AfT _ _ _ _ _ (.ok b'.d) _
            cases hd : b'.d <;> rw [hd] at q' <;> first | exact q'.elim | exact fun H2 F2 g2 => q' H2 F2 (g1.trans g2)
      · intro H1 F1 g1
        rw [if_pos rfl]
        exact q H1 F1 g1
      · exact q.elim
end
end Tg
namespace Tg
open PySem PySem.Spec PyProof.Rows L2
section
variable {T : Tb} {Φ : Fs} {ev : Nat → Value}
def AfP (w : Wx) (σ : L2.St) (H F : Hp) (r : M (Option Int)) (Q : Option Int → Hp → Prop) : Prop := match r with
  | .ok o => ∀ H' F', Gr H F H' F' → Q o H'
  | .ex c => ∀ H' F', Gr H F H' F' → w c σ H'
  | .stuck => False
def tP (K : PySem.W.Frag) (w : Wx) (Φ : Fs) (ms : List E) : TO := fun σ H Q => ∃ H0 F0 F ρ, StR K H0 F0 σ H F ρ ∧ AfP w σ H F (do let ls ← evL Φ ρ ms; partD ls) Q
theorem po_weak {X : Cx} {e : Option Expr} {t t' : TO} (h : PO X e t) (hw : ∀ σ H Q, t' σ H Q → t σ H Q) : PO X e t' := ⟨fun pins s σ H Q I q => h.run pins s σ H Q I (hw σ H Q q)⟩
theorem noex_part {ds : List D} {c : Nat} : partD ds ≠ .ex c := by
  intro h
  unfold partD at h
  split at h <;> cases h
theorem snd_part {ms : List E} (S : ∀ m ∈ ms, Snd T Φ ev m) {w : Wx} {s : Sc} {X : Cx} (G : Good T Φ w ev s X) {o : Option Expr} (h : (match o with | some y => ckL T ms s [y] | none => ms.isEmpty) = true) : PO X o (tP X.K w Φ ms) := by
  cases o with
  | none =>
    cases ms with
    | cons => simp at h
    | nil => exact po_weak po_none fun σ H Q ⟨H0, F0, F, ρ, R, a⟩ => (show AfP w σ H F (.ok none) Q from by simpa only [evL, bind_ok, partD] using a) H F (.refl R.s)
  | some y =>
    cases ms with
    | nil => simp [ckL] at h
    | cons m r =>
      cases r with
      | cons => simp [ckL] at h
      | nil =>
        simp only [ckL, Bool.and_eq_true] at h
        refine po_weak (po_some (S m List.mem_cons_self w s X y G h.1).1) fun σ H Q ⟨H0, F0, F, ρ, R, a⟩ => ⟨H0, F0, F, ρ, R, ?_⟩
        simp only [evL] at a
        cases e1 : evE Φ ρ m with
        | stuck => rw [e1] at a; exact a
        | ex c => rw [e1] at a; exact a
        | ok b =>
          rw [e1] at a
          intro v H1 F1 g1 rp nw
          cases b with
          | own ds => exact a.elim
          | val d =>
            cases d <;> try (exact a.elim)
            rename_i i
            have : v = .int i := by cases (show Dq X.K F1 v (.int i) from rp); rfl
            subst this
            exact ⟨i, rfl, a H1 F1 g1⟩
theorem snd_sl {a : E} {lo hi : List E} (Sa : Snd T Φ ev a) (Sl : ∀ m ∈ lo, Snd T Φ ev m) (Sh : ∀ m ∈ hi, Snd T Φ ev m) : Snd T Φ ev (.sl a lo hi) := snd_plain (fun s e h => by unfold ckE at h; split at h <;> first | rfl | cases h) fun w s X e G h => by
  unfold ckE at h
  split at h
  rotate_left
  · cases h
  rename_i x l u p2 pos
  simp only [Bool.and_eq_true] at h
  refine pe_weak (pe_slice sl_all (peB G h.1.1 (Sa w s X x G h.1.1).1) (snd_part Sl G h.1.2) (snd_part Sh G h.2)) fun σ H Q ⟨H0, F0, F, ρ, R, q⟩ => ⟨H0, F0, F, ρ, R, ?_⟩
  simp only [evE] at q
  cases e1 : bor ρ a (evE Φ ρ a) with
  | stuck => rw [e1] at q; exact q
  | ex c => rw [e1] at q; exact q
  | ok d =>
    rw [e1, bind_ok] at q
    intro v H1 F1 g1 rb
    refine ⟨H0, F0, F1, ρ, R.grow g1, ?_⟩
    cases e2 : evL Φ ρ lo with
    | stuck => rw [e2] at q; exact q
    | ex c => rw [e2] at q; exact fun H' F' g => q H' F' (g1.trans g)
    | ok ls =>
      rw [e2, bind_ok] at q
      rw [bind_ok]
      cases e3 : partD ls with
      | stuck => rw [e3] at q; exact q
      | ex c => exact (noex_part e3).elim
      | ok ol =>
        rw [e3, bind_ok] at q
        intro H2 F2 g2
        refine ⟨H0, F0, F2, ρ, (R.grow g1).grow g2, ?_⟩
        cases e4 : evL Φ ρ hi with
        | stuck => rw [e4] at q; exact q
        | ex c => rw [e4] at q; exact fun H' F' g => q H' F' ((g1.trans g2).trans g)
        | ok us =>
          rw [e4, bind_ok] at q
          rw [bind_ok]
          cases e5 : partD us with
          | stuck => rw [e5] at q; exact q
          | ex c => exact (noex_part e5).elim
          | ok ou =>
            rw [e5, bind_ok] at q
            intro H3 F3 g3
            exact ⟨F3, d, g3.s, (rb.mono g2).mono g3, AfV.ofE ((g1.trans g2).trans g3) (fun c => noex_sl) q⟩
theorem bi_boot (f : Bi) : bootBuiltins f.nm = some f.v := by cases f <;> decide +kernel
theorem bi_mem (f : Bi) : f.nm ∈ bltNames := by cases f <;> simp [bltNames, Bi.nm]
theorem bi_nn (f : Bi) : f.nm ≠ "__name__" := by cases f <;> decide
theorem bi_kind (f : Bi) : (∃ id, f.v = .builtin id) ∨ ∃ id, f.v = .type id := by cases f <;> first | exact .inl ⟨_, rfl⟩ | exact .inr ⟨_, rfl⟩
theorem snd_bi {f : Bi} {es : List E} (S : ∀ m ∈ es, Snd T Φ ev m) : Snd T Φ ev (.bi f es) := snd_plain (fun s e h => by unfold ckE at h; split at h <;> first | rfl | cases h) fun w s X e G h => by
  unfold ckE at h
  split at h
  rotate_left
  · cases h
  rename_i x p xs pos
  simp only [Bool.and_eq_true, decide_eq_true_eq] at h
  obtain ⟨⟨⟨rfl, hg⟩, hne⟩, hL⟩ := h
  cases xs with
  | nil => simp at hne
  | cons e0 es0 =>
    have hn := ckL_nst hL
    rw [List.all_cons, Bool.and_eq_true] at hn
    have pa := sndBs S G hL
    have hc := call_bi G.calm f
    have key : PE X (.Call (.Name f.nm p) (e0 :: es0) [] pos) (tCB (rn X.K (biD f)) (tBs X.K w Φ es)) := by
      rcases bi_kind f with ⟨id, hid⟩ | ⟨id, hid⟩
      · rw [hid] at hc
        exact pe_callB hc (gl_of G hg).1 (G.blt _ (bi_mem f)) (by rw [bi_boot, hid]) pa (bi_nn f) (gl_of G hg).2 (star_cons hn.1) (star_any hn.2)
      · rw [hid] at hc
        exact pe_callTy hc (gl_of G hg).1 (G.blt _ (bi_mem f)) (by rw [bi_boot, hid]) pa (bi_nn f) (gl_of G hg).2 (star_cons hn.1) (star_any hn.2)
    refine pe_weak key fun σ H Q ⟨H0, F0, F, ρ, R, q⟩ => ⟨H0, F0, F, ρ, R, ?_⟩
    simp only [evE] at q
    cases e1 : evBs Φ ρ es with
    | stuck => rw [e1] at q; exact q
    | ex c => rw [e1] at q; exact q
    | ok ds =>
      rw [e1, bind_ok] at q
      exact fun vs H1 F1 g1 rb => ⟨F1, ds, g1.s, rb, AfV.ofE g1 (fun c => noex_bi) q⟩
theorem snd_isi {a : E} {t : Ty} (Sa : Snd T Φ ev a) : Snd T Φ ev (.isi a t) := snd_plain (fun s e h => by unfold ckE at h; split at h <;> first | rfl | cases h) fun w s X e G h => by
  unfold ckE at h
  split at h
  rotate_left
  · cases h
  rename_i x p y z p2 pos
  simp only [Bool.and_eq_true, decide_eq_true_eq] at h
  obtain ⟨⟨⟨⟨rfl, hg⟩, rfl⟩, hg2⟩, hk⟩ := h
  have hb : bootBuiltins (Str.ofString t.nm) = some (.type t.nm) := by cases t <;> decide +kernel
  have hm : X.mg (Str.ofString t.nm) = none := G.blt _ (by cases t <;> decide +kernel)
  have hnn : Str.ofString t.nm ≠ "__name__" := by cases t <;> decide +kernel
  have pz : PE X (.Name (Str.ofString t.nm) p2) (L2.tC (.ty t.nm)) := pe_bltn (gl_of G hg2).1 hm hb rfl hnn (gl_of G hg2).2
  refine pe_weak (pe_callB (call_isiD t) (gl_of G hg).1 (G.blt _ (by simp [bltNames])) (by decide +kernel) (pa_cons (peB G hk (Sa w s X y G hk).1) (pa_cons pz pa_nil rfl) (star_cons (ckE_nst hk))) (by decide) (by decide) (star_cons (ckE_nst hk)) rfl) fun σ H Q ⟨H0, F0, F, ρ, R, q⟩ => ⟨H0, F0, F, ρ, R, ?_⟩
  simp only [evE] at q
  cases e1 : bor ρ a (evE Φ ρ a) with
  | stuck => rw [e1] at q; exact q
  | ex c => rw [e1] at q; exact q
  | ok d =>
    rw [e1, bind_ok] at q
    exact fun v H1 F1 g1 rb => ⟨v, F1, d, rfl, g1.s, rb, AfV.ofE g1 (fun c => noex_isi) q⟩
theorem snd_call {k : Nat} {es : List E} (S : ∀ m ∈ es, Snd T Φ ev m) : Snd T Φ ev (.call k es) := snd_plain (fun s e h => by unfold ckE at h; split at h <;> first | rfl | cases h) fun w s X e G h => by
  unfold ckE at h
  split at h
  rotate_left
  · cases h
  rename_i x p xs pos
  simp only [Bool.and_eq_true, decide_eq_true_eq] at h
  obtain ⟨⟨⟨hc, hg⟩, hne⟩, hL⟩ := h
  obtain ⟨f, fd, ps, lvl, hm, hr, F, ha, hk, hb⟩ := G.calls k x hc
  cases xs with
  | nil => simp at hne
  | cons e0 es0 =>
    have hn := ckL_nst hL
    rw [List.all_cons, Bool.and_eq_true] at hn
    refine pe_weak (pe_callS F hr (gl_of G hg).1 hm hk hb (fun σ => passAt G.tk σ) (sndL S G hL) (gl_of G hg).2 (star_cons hn.1) (star_any hn.2)) fun σ H Q ⟨H0, F0, Fz, ρ, R, q⟩ => ⟨H0, F0, Fz, ρ, R, ?_⟩
    simp only [evE] at q
    cases e1 : evL Φ ρ es with
    | stuck => rw [e1] at q; exact q
    | ex c => rw [e1] at q; exact q
    | ok ds =>
      rw [e1, bind_ok] at q
      intro vs H1 F1 g1 dq
      by_cases hlen : ds.length = ps.length
      · refine ⟨F1, ds, by rw [dq.length]; exact hlen, g1.s, dq, ?_⟩
        cases e2 : Φ k ds with
        | stuck => rw [e2] at q; exact q
        | ex c => rw [e2] at q; exact fun H' F' g => ⟨c, rfl, rfl, q H' F' (g1.trans g)⟩
        | ok b => rw [e2] at q; exact fun v H2 F2 g2 rp nw => q v H2 F2 (g1.trans g2) rp (nw.back g1.h)
      · rw [ha ds hlen] at q; exact q.elim
mutual
theorem snd : ∀ m : E, Snd T Φ ev m
  | .var i => snd_var i
  | .con d => snd_con d
  | .glob k d => snd_glob k d
  | .tup es => snd_tup (sndAll es)
  | .lst es => snd_lst (sndAll es)
  | .rep es b => snd_rep (sndAll es) (snd b)
  | .bop o a b => snd_bop (snd a) (snd b)
  | .neg a => snd_neg (snd a)
  | .not a => snd_not (snd a)
  | .and a b => snd_and (snd a) (snd b)
  | .or a b => snd_or (snd a) (snd b)
  | .cmp o a b => snd_cmp (snd a) (snd b)
  | .ix a b => snd_ix (snd a) (snd b)
  | .sl a lo hi => snd_sl (snd a) (sndAll lo) (sndAll hi)
  | .bi f es => snd_bi (sndAll es)
  | .isi a t => snd_isi (snd a)
  | .call k es => snd_call (sndAll es)
  | .lc m t k es c own => snd_plain (fun s e h => by unfold ckE at h; split at h <;> first | rfl | cases h) fun w s X e G h => snd_lc (snd m) (sndAll es) (sndAll c) G h
theorem sndAll : ∀ (ms : List E), ∀ m ∈ ms, Snd T Φ ev m
  | [], m, h => by cases h
  | a :: r, m, h => by
    by_cases e : m = a
    · rw [e]; exact snd a
    · exact sndAll r m ((List.mem_cons.mp h).resolve_left e)
end
end
end Tg
namespace Tg
open PySem PySem.Spec PyProof.Rows L2
def nlc : Expr → Bool
  | .ListComp .. => false
  | .SetComp .. => false
  | .DictComp .. => false
  | _ => true
def ntup : Expr → Bool
  | .Tuple .. => false
  | _ => true
def nmLoc (s : Sc) (e : Expr) : Bool := match e with | .Name x _ => decide (s.kd x = some .local) | _ => false
def fnK (s : Sc) : Bool := match s.sc.kind with | .function => true | _ => false
def parOk (s : Sc) (ts vs : List Expr) : Bool := match ts, vs with
  | [.Name x px, .Name y py], [a, b] => nst a && nst b && decide (s.kd x = some .local) && decide (s.kd y = some .local) && (py.line == px.line) && (!(x == y)) && !([a, b].all (foldedForSure 8)) && !([a, b].all (constantsAlone 8))
  | [.Name x px, .Name y py, .Name z pz], [a, b, c] => nst a && nst b && nst c && decide (s.kd x = some .local) && decide (s.kd y = some .local) && decide (s.kd z = some .local) && (py.line == px.line) && (pz.line == px.line) &&
      (!(x == y)) && (!(x == z)) && (!(y == z)) && !([a, b, c].all (foldedForSure 8)) && !([a, b, c].all (constantsAlone 8))
  | _, _ => false
def parNo (ts vs : List Expr) : Bool := (!(ts.length == 2 || ts.length == 3)) || vs.all (foldedForSure 8) && vs.all nst
def ckAsg (T : Tb) (s : Sc) (t : Tg) (m : E) (tg e : Expr) : Bool := match t with
  | .nm i => (match tg with | .Name x _ => ckLoc T s i x && ckE T m s e && (match e with | .SetComp .. => false | .DictComp .. => false | _ => true) | _ => false)
  | .tp ts => (match tg with
    | .Tuple es _ _ => ckTs T s ts es && ckE T m s e && nlc e && (match e with | .Tuple vs _ _ => fnK s && (parOk s es vs || parNo es vs) | _ => true)
    | _ => false)
mutual
def ckS (T : Tb) (s : Sc) : S → Stmt → Bool
  | .asg t m, st => (match st with | .Assign [tg] e _ => ckAsg T s t m tg e | _ => false)
  | .set i m, st => (match st with | .Assign [tg] e _ => ckAsg T s (.nm i) m tg e | _ => false)
  | .put i k m, st => (match st with | .Assign [.Subscript (.Name x _) y _] e _ => ckVis T s i x && ckE T k s y && ckE T m s e && nlc e && plainIx y | _ => false)
  | .app i m, st => (match st with
    | .Expr (.Call (.Attribute (.Name x _) a apos) [e] [] cpos) _ => ckVis T s i x && decide (a = "append") && ckE T m s e && (apos.endLine == cpos.line)
    | _ => false)
  | .ite c a b, st => (match st with | .If e x y _ => ckE T c s e && ckB T s a x && ckB T s b y | _ => false)
  | .for t k es body, st => (match st with
    | .For tg iter x [] _ => ckIt T k es s iter && (match k with | .zip => (match tg with | .Tuple .. => true | _ => false) | _ => true) && ckT T s t tg && ckB T s body x
    | _ => false)
  | .whl c body, st => (match st with | .While e x [] _ => ckE T c s e && ckB T s body x | _ => false)
  | .ret m, st => (match st with | .Return (some e) _ => ckE T m s e | _ => false)
  | .cont, st => (match st with | .Continue _ => true | _ => false)
  | .pass, st => (match st with | .Pass _ => true | _ => false)
  | .frz _ m, st => ckS T s m st
  | .raise c, st => (match st with
    | .Raise (some (.Call (.Name x _) [.Constant (.str _) _ _] [] _)) none _ => decide (T.exc[c]? = some x) && ckGl s x
    | _ => false)
  | .bad, _ => true
def ckB (T : Tb) (s : Sc) : List S → List Stmt → Bool
  | [], ys => ys.isEmpty
  | m :: ms, ys => (match ys with | y :: r => ckS T s m y && ckB T s ms r | [] => false)
end
def AfS (K : PySem.W.Frag) (w : Wx) (H0 F0 Fa : Hp) (r : M Out) (D : Ends) : Prop := match r with
  | .ok (.nx ρ) => ∀ σ H F, StR K H0 F0 σ H F ρ → Same Fa F → D.nx σ H
  | .ok (.ct ρ) => ∀ σ H F, StR K H0 F0 σ H F ρ → Same Fa F → D.ct σ H
  | .ok (.rt b) => ∀ v H F, Gr H0 F0 H F → RepB K H F b v → NewB H0 b v → D.rt v H
  | .ex c => ∀ σ H F, Gr H0 F0 H F → w c σ H
  | .stuck => False
def tS (K : PySem.W.Frag) (w : Wx) (Φ : Fs) (m : S) : TS := fun D σ H => ∃ H0 F0 F ρ, StR K H0 F0 σ H F ρ ∧ AfS K w H0 F0 F (exS Φ m ρ) D
def tSs (K : PySem.W.Frag) (w : Wx) (Φ : Fs) (ms : List S) : TS := fun D σ H => ∃ H0 F0 F ρ, StR K H0 F0 σ H F ρ ∧ AfS K w H0 F0 F (exL Φ ms ρ) D
theorem AfS.mono {K : PySem.W.Frag} {w : Wx} {H0 F0 F1 F2 : Hp} {r : M Out} {D : Ends} (h : AfS K w H0 F0 F1 r D) (s : Same F1 F2) : AfS K w H0 F0 F2 r D := by
  cases r with
  | stuck => exact h
  | ex c => exact h
  | ok o =>
    cases o with
    | nx ρ => exact fun σ H F R q => h σ H F R (s.trans q)
    | ct ρ => exact fun σ H F R q => h σ H F R (s.trans q)
    | rt b => exact h
theorem ps_weak {X : Cx} {e : Stmt} {t t' : TS} (h : PS X e t) (hw : ∀ D σ H, t' D σ H → t D σ H) : PS X e t' := ⟨fun pins s σ H D I q => h.run pins s σ H D I (hw D σ H q)⟩
theorem pss_weak {X : Cx} {e : List Stmt} {t t' : TS} (h : PSs X e t) (hw : ∀ D σ H, t' D σ H → t D σ H) : PSs X e t' := ⟨fun pins s σ H D I q => h.run pins s σ H D I (hw D σ H q)⟩
def SndS (T : Tb) (Φ : Fs) (ev : Nat → Value) (m : S) : Prop := ∀ (w : Wx) (s : Sc) (X : Cx) (e : Stmt), Good T Φ w ev s X → ckS T s m e = true → PS X e (tS X.K w Φ m)
def SndB (T : Tb) (Φ : Fs) (ev : Nat → Value) (m : List S) : Prop := ∀ (w : Wx) (s : Sc) (X : Cx) (e : List Stmt), Good T Φ w ev s X → ckB T s m e = true → PSs X e (tSs X.K w Φ m)
section
variable {K : PySem.W.Frag} {H0 F0 H F : Hp} {σ : L2.St} {ρ : En}
theorem StR.setO (R : StR K H0 F0 σ H F ρ) {H1 F1 : Hp} (g : Gr H F H1 F1) (i : Nat) {l : Addr} {vs : List V} {ds : List D} (h1 : H1 l = some (.lst vs)) (h2 : F1 l = none) (h3 : H l = none) (h4 : DqAll K F1 vs ds) :
    StR K H0 F0 (σ.set i (some (.ref l))) H1 F1 (ρ.set i (some (.own ds))) := by
  have R1 := R.grow g
  refine ⟨R1.gr, by rw [List.length_set, List.length_set, R.len], fun j d e => ?_, fun j es e => ?_, fun j k es es' l' ne e1 e2 e3 e4 => ?_⟩
  · by_cases hj : i = j
    · subst hj
      have hl := (List.getElem?_eq_some_iff.mp e).1
      rw [List.length_set] at hl
      rw [List.getElem?_set_self hl] at e; cases e
    · rw [List.getElem?_set_ne hj] at e ⊢
      exact R1.val j d e
  · by_cases hj : i = j
    · subst hj
      have hl := (List.getElem?_eq_some_iff.mp e).1
      rw [List.length_set] at hl
      rw [List.getElem?_set_self hl] at e; cases e
      exact ⟨l, vs, List.getElem?_set_self (by rw [R.len]; exact hl), h1, h2, R.gr.h.free h3, h4⟩
    · rw [List.getElem?_set_ne hj] at e ⊢
      exact R1.own j es e
  · have other : ∀ {j : Nat} {es : List D} {l' : Addr}, i ≠ j → ρ[j]? = some (some (.own es)) → σ[j]? = some (some (.ref l')) → l' ≠ l := fun {j es l'} hj e e' z => by
      obtain ⟨l2, vs2, f1, f2, _⟩ := R.own j es e
      rw [f1] at e'; cases e'
      rw [z, h3] at f2; cases f2
    by_cases hj : i = j
    · subst hj
      have hl := (List.getElem?_eq_some_iff.mp e1).1
      rw [List.length_set] at hl
      rw [List.getElem?_set_self (by rw [R.len]; exact hl)] at e3
      cases e3
      rw [List.getElem?_set_ne ne] at e2 e4
      exact other ne e2 e4 rfl
    · by_cases hk : i = k
      · subst hk
        have hl := (List.getElem?_eq_some_iff.mp e2).1
        rw [List.length_set] at hl
        rw [List.getElem?_set_self (by rw [R.len]; exact hl)] at e4
        cases e4
        rw [List.getElem?_set_ne hj] at e1 e3
        exact other hj e1 e3 rfl
      · rw [List.getElem?_set_ne hj] at e1 e3
        rw [List.getElem?_set_ne hk] at e2 e4
        exact R.sep j k es es' l' ne e1 e2 e3 e4
theorem StR.setB (R : StR K H0 F0 σ H F ρ) {H1 F1 : Hp} (g : Gr H F H1 F1) (i : Nat) {b : B} {v : V} (rp : RepB K H1 F1 b v) (nw : NewB H b v) : StR K H0 F0 (σ.set i (some v)) H1 F1 (ρ.set i (some b)) := by
  cases b with
  | val d => exact (R.grow g).setV i rp
  | own ds =>
    obtain ⟨l, vs, rfl, h1, h2, h3⟩ := rp
    obtain ⟨l', e, n⟩ := nw
    cases e
    exact R.setO g i h1 h2 n h3
theorem StR.change (R : StR K H0 F0 σ H F ρ) {i : Nat} {ds es : List D} {l : Addr} {us : List V} (e : ρ[i]? = some (some (.own ds))) (el : σ[i]? = some (some (.ref l))) (h : DqAll K F us es) :
    StR K H0 F0 σ (upd H l (.lst us)) F (ρ.set i (some (.own es))) := by
  obtain ⟨l', vs, f1, f2, f3, f4, f5⟩ := R.own i ds e
  rw [el] at f1; cases f1
  have hl := (List.getElem?_eq_some_iff.mp e).1
  refine ⟨R.gr.put f4 f3, by rw [List.length_set, R.len], fun j d ej => ?_, fun j es' ej => ?_, fun j k es1 es2 l' ne e1 e2 e3 e4 => ?_⟩
  · by_cases hj : i = j
    · subst hj
      rw [List.getElem?_set_self hl] at ej; cases ej
    · rw [List.getElem?_set_ne hj] at ej
      exact R.val j d ej
  · by_cases hj : i = j
    · subst hj
      rw [List.getElem?_set_self hl] at ej; cases ej
      exact ⟨l, us, el, upd_same, f3, f4, h⟩
    · rw [List.getElem?_set_ne hj] at ej
      obtain ⟨l2, vs2, g1, g2, g3, g4, g5⟩ := R.own j es' ej
      refine ⟨l2, vs2, g1, ?_, g3, g4, g5⟩
      rw [upd_ne fun z => ?_]
      · exact g2
      · subst z; exact R.sep i j ds es' l2 hj e ej el g1
  · have own' : ∀ {j : Nat} {es' : List D}, (ρ.set i (some (.own es)))[j]? = some (some (.own es')) → ∃ es2, ρ[j]? = some (some (.own es2)) := fun {j es'} q => by
      by_cases hj : i = j
      · subst hj; exact ⟨ds, e⟩
      · rw [List.getElem?_set_ne hj] at q; exact ⟨_, q⟩
    obtain ⟨x1, q1⟩ := own' e1
    obtain ⟨x2, q2⟩ := own' e2
    exact R.sep j k x1 x2 l' ne q1 q2 e3 e4
theorem StR.frz1 (R : StR K H0 F0 σ H F ρ) {i : Nat} {ds : List D} (e : ρ[i]? = some (some (.own ds))) : ∃ F', StR K H0 F0 σ H F' (ρ.set i (some (.val (.list ds)))) ∧ Same F F' := by
  obtain ⟨l, vs, f1, f2, f3, f4, f5⟩ := R.own i ds e
  have hl := (List.getElem?_eq_some_iff.mp e).1
  have sn : Same F (upd F l (.lst vs)) := same_new f3
  refine ⟨upd F l (.lst vs), ⟨R.gr.freeze f2 f4, by rw [List.length_set, R.len], fun j d ej => ?_, fun j es' ej => ?_, fun j k es1 es2 l' ne e1 e2 e3 e4 => ?_⟩, sn⟩
  · by_cases hj : i = j
    · subst hj
      rw [List.getElem?_set_self hl] at ej; cases ej
      exact ⟨.ref l, f1, .lst (.of upd_same) (DqAll.mono sn _ _ f5)⟩
    · rw [List.getElem?_set_ne hj] at ej
      obtain ⟨v, g1, g2⟩ := R.val j d ej
      exact ⟨v, g1, Dq.mono sn _ _ g2⟩
  · by_cases hj : i = j
    · subst hj
      rw [List.getElem?_set_self hl] at ej; cases ej
    · rw [List.getElem?_set_ne hj] at ej
      obtain ⟨l2, vs2, g1, g2, g3, g4, g5⟩ := R.own j es' ej
      refine ⟨l2, vs2, g1, g2, ?_, g4, DqAll.mono sn _ _ g5⟩
      rw [upd_ne fun z => ?_]
      · exact g3
      · subst z; exact R.sep i j ds es' l2 hj e ej f1 g1
  · have hj : i ≠ j := fun z => by subst z; rw [List.getElem?_set_self hl] at e1; cases e1
    have hk : i ≠ k := fun z => by subst z; rw [List.getElem?_set_self hl] at e2; cases e2
    rw [List.getElem?_set_ne hj] at e1
    rw [List.getElem?_set_ne hk] at e2
    exact R.sep j k es1 es2 l' ne e1 e2 e3 e4
theorem StR.frz : ∀ (is : List Nat) {F : Hp} {ρ : En}, StR K H0 F0 σ H F ρ → ∃ F', StR K H0 F0 σ H F' (frzE ρ is) ∧ Same F F'
  | [], F, _, R => ⟨F, R, .refl _⟩
  | i :: is, F, ρ, R => by
    unfold frzE
    split
    · rename_i ds e
      obtain ⟨F', R', s1⟩ := R.frz1 e
      obtain ⟨F2, R2, s2⟩ := StR.frz is R'
      exact ⟨F2, R2, s1.trans s2⟩
    · exact StR.frz is R
end
end Tg
namespace Tg
open PySem PySem.Spec PyProof.Rows L2
theorem fnK_ok {s : Sc} (h : fnK s = true) : s.sc.kind = .function := by
  unfold fnK at h
  split at h
  · assumption
  · cases h
theorem blockKind_fn {env : Env} (h : env.scope.kind = .function) : env.blockKind = .function := by
  unfold Env.blockKind
  rw [h]; rfl
theorem sw_none {e : Expr} {t : Option Expr} {l : Nat} {env : Env} (h : nlc e = true) : swapsWith e t l env = pure false := by
  cases e <;> first | rfl | cases h
theorem sw_sole {e t : Expr} {l : Nat} {env : Env} (h : nlc e = true) : swapsWithSole [t] e l env = pure false := by
  cases e <;> first | rfl | cases h
theorem sw_lc {elt : Expr} {gs : List Comprehension} {scope : Scope} {pos py : Pos} {y : Str} {l : Nat} {env : Env} : swapsWith (.ListComp elt gs scope pos) (some (.Name y py)) l env =
    pure (env.blockKind == .function && env.kindOf y == some .local && py.line == pos.line && !(scope.names.any fun (n, k) => n == y && (k == .local || k == .cell))) := rfl
theorem sst_ntup {ts : List Expr} {k : Nat} {p : Pos} {e : Expr} {env : Env} (h : ntup e = true) : swappedStores [.Tuple ts k p] e env = pure none := by
  cases e <;> first | rfl | cases h
theorem sst_name {x : Str} {p : Pos} {e : Expr} {env : Env} : swappedStores [.Name x p] e env = pure none := by
  cases e <;> rfl
theorem sst_sub {a b : Expr} {p : Pos} {e : Expr} {env : Env} : swappedStores [.Subscript a b p] e env = pure none := by
  cases e <;> rfl
theorem sst_no {ts vs : List Expr} {k k2 : Nat} {p p2 : Pos} {env : Env} (h : parNo ts vs = true) : swappedStores [.Tuple ts k p] (.Tuple vs k2 p2) env = pure none := by
  unfold parNo at h
  unfold swappedStores
  simp only [Bool.or_eq_true, Bool.and_eq_true] at h
  dsimp only
  rcases h with h | ⟨h, h2⟩
  · rw [if_pos (by rw [h]; rfl)]
  · split
    · rfl
    · split
      · rfl
      · split
        · rfl
        · first | rfl | rw [if_pos h]
theorem beq_ne_str {x y : Str} (h : (!(x == y)) = true) : x ≠ y := fun e => by subst e; simp at h
theorem star_no {a : Expr} (h : nst a = true) : (match (generalizing := false) a with | .Starred .. => true | _ => false) = false := by
  cases a <;> first | rfl | cases h
theorem sst_par2 {x y : Str} {px py pt p2 : Pos} {a b : Expr} {k k2 : Nat} {env : Env} (hk : env.blockKind = .function) (ha : nst a = true) (hb : nst b = true) (hx : env.kindOf x = some .local) (hy : env.kindOf y = some .local) (hl : (py.line == px.line) = true) (hxy : x ≠ y)
    (h1 : [a, b].all (foldedForSure 8) = false) (h2 : [a, b].all (constantsAlone 8) = false) : swappedStores [.Tuple [.Name x px, .Name y py] k pt] (.Tuple [a, b] k2 p2) env = pure (some [x, y]) := by
  unfold swappedStores
  have s0 : ([a, b].any fun | .Starred .. => true | _ => false) = false := by
    rw [List.any_cons, List.any_cons, List.any_nil, star_no ha, star_no hb]; rfl
  dsimp only
  rw [if_neg (by rw [hk]; simp), if_neg (fun hh => by have z := hh.symm.trans s0; cases z)]
  generalize hn : List.filterMap _ _ = nm
  have e : nm = [x, y] := by
    rw [← hn]
    have hl' : py.line = px.line := by simpa using hl
    simp [Expr.pos, hx, hy, hl']
  subst e
  have b1 : (y == x) = false := beq_eq_false_iff_ne.mpr (Ne.symm hxy)
  rw [if_neg (by simp [List.eraseDups, List.eraseDupsBy, List.eraseDupsBy.loop, b1]), if_neg (by rw [h1]; exact Bool.false_ne_true), if_neg (by rw [h2]; exact Bool.false_ne_true)]
theorem sst_par3 {x y z : Str} {px py pz pt p2 : Pos} {a b c : Expr} {k k2 : Nat} {env : Env} (hk : env.blockKind = .function) (ha : nst a = true) (hb : nst b = true) (hc : nst c = true) (hx : env.kindOf x = some .local) (hy : env.kindOf y = some .local) (hz : env.kindOf z = some .local)
    (hl : (py.line == px.line) = true) (hl2 : (pz.line == px.line) = true) (hxy : x ≠ y) (hxz : x ≠ z) (hyz : y ≠ z)
    (h1 : [a, b, c].all (foldedForSure 8) = false) (h2 : [a, b, c].all (constantsAlone 8) = false) : swappedStores [.Tuple [.Name x px, .Name y py, .Name z pz] k pt] (.Tuple [a, b, c] k2 p2) env = pure (some [x, y, z]) := by
  unfold swappedStores
  have s0 : ([a, b, c].any fun | .Starred .. => true | _ => false) = false := by
    rw [List.any_cons, List.any_cons, List.any_cons, List.any_nil, star_no ha, star_no hb, star_no hc]; rfl
  dsimp only
  rw [if_neg (by rw [hk]; simp), if_neg (fun hh => by have z := hh.symm.trans s0; cases z)]
  generalize hn : List.filterMap _ _ = nm
  have e : nm = [x, y, z] := by
    rw [← hn]
    have hl' : py.line = px.line := by simpa using hl
    have hl2' : pz.line = px.line := by simpa using hl2
    simp [Expr.pos, hx, hy, hz, hl', hl2']
  subst e
  have b1 : (y == x) = false := beq_eq_false_iff_ne.mpr (Ne.symm hxy)
  have b2 : (z == x) = false := beq_eq_false_iff_ne.mpr (Ne.symm hxz)
  have b3 : (z == y) = false := beq_eq_false_iff_ne.mpr (Ne.symm hyz)
  rw [if_neg (by simp [List.eraseDups, List.eraseDupsBy, List.eraseDupsBy.loop, b1, b2, b3]), if_neg (by rw [h1]; exact Bool.false_ne_true), if_neg (by rw [h2]; exact Bool.false_ne_true)]
end Tg
namespace Tg
open PySem PySem.Spec PyProof.Rows L2
section
variable {T : Tb} {Φ : Fs} {ev : Nat → Value} {w : Wx} {s : Sc} {X : Cx}
theorem loc_of (G : Good T Φ w ev s X) {i : Nat} {x : Str} (h : ckLoc T s i x = true) : X.N[i]? = some x ∧ L2.Loc X.env.scope x ∧ (X.fn x = true ∨ X.env.scope.names.lookup x = some .local) := by
  unfold ckLoc at h
  simp only [Bool.and_eq_true, Bool.or_eq_true, decide_eq_true_eq] at h
  obtain ⟨h1, h2⟩ := h
  refine ⟨by rw [G.N]; exact h1, ?_, ?_⟩
  · unfold L2.Loc; rw [G.sc]
    rcases h2 with h2 | h2
    · exact .inl h2
    · exact .inr h2.1
  · rcases h2 with h2 | h2
    · right; rw [G.sc]; exact h2
    · left; rw [G.fn]; exact h2.2
theorem ck_lc {m : E} {elt : Expr} {gs : List Comprehension} {scope : Scope} {pos : Pos} (h : ckE T m s (.ListComp elt gs scope pos) = true) : ∃ a t k es c own, m = .lc a t k es c own := by
  cases m <;> first | exact ⟨_, _, _, _, _, _, rfl⟩ | simp [ckE] at h
theorem ck_nm {t : Tg} {x : Str} {p : Pos} (h : ckT T s t (.Name x p) = true) : ∃ i, t = .nm i ∧ ckLoc T s i x = true := by
  cases t with
  | nm i => exact ⟨i, rfl, by simpa only [ckT] using h⟩
  | tp ts => simp [ckT] at h
theorem ps_name {i : Nat} {m : E} {x : Str} {p pos : Pos} {e : Expr} (G : Good T Φ w ev s X) (h1 : ckLoc T s i x = true) (h2 : ckE T m s e = true) :
    PS X (.Assign [.Name x p] e pos) (tAsg (tE X.K w Φ m) (gName i)) := by
  obtain ⟨hi, hl, hf⟩ := loc_of G h1
  have nd : X.N.Nodup := by rw [G.N]; exact G.nd
  by_cases hn : nlc e = true
  · exact ps_set nd hi hl (snd m w s X e G h2).1 (sw_none hn) hf
  · cases e <;> first | (exact absurd rfl hn) | (exfalso; cases m <;> simp [ckE] at h2; done) | skip
    rename_i elt gs scope pos2
    obtain ⟨a, t, k, es, c, own, rfl⟩ := ck_lc h2
    by_cases hsw : (X.env.blockKind == .function && X.env.kindOf x == some .local && p.line == pos2.line && !(scope.names.any fun (n, k) => n == x && (k == .local || k == .cell))) = true
    · obtain ⟨elt', tg, iter, ifs, scope', pos', e', hi', ok, hg, ht, he, hns, ho, hs⟩ := snd_lcP (snd a) (sndAll es) (sndAll c) G h2
      cases e'
      have hyl : X.env.scope.names.lookup x = some .local := by
        simp only [Bool.and_eq_true] at hsw
        have := hsw.1.1.2
        exact beq_iff_eq.mp this
      refine ps_weak (ps_setLc G.calm nd hi hyl (by rw [sw_lc, hsw]) hi' ok hg ht he (nset_fold hns)) fun D σ H q => ?_
      have q' : tE X.K w Φ (.lc a t k es c own) σ H (fun x H1 => D.nx (σ.set i (some x)) H1) := q
      show tLc _ _ _ _ _ σ H _
      rw [ho]
      exact tLc_of hs q'
    · exact ps_set nd hi hl (snd _ w s X _ G h2).1 (by rw [sw_lc, Bool.eq_false_iff.mpr hsw]) hf
theorem asg_E {K : PySem.W.Frag} {H0 F0 H F : Hp} {σ : L2.St} {ρ : En} {r : M B} {D : Ends} {Q : VK} (R : StR K H0 F0 σ H F ρ) {f : B → M Out} (h : AfS K w H0 F0 F (do let b ← r; f b) D)
    (q : ∀ b v H' F', f b = f b → AfS K w H0 F0 F (f b) D → Gr H F H' F' → RepB K H' F' b v → NewB H b v → Q v H') : AfE K w σ H F r Q := by
  cases r with
  | stuck => exact h
  | ex c => exact fun H' F' g => h σ H' F' (R.gr.trans g)
  | ok b => exact fun v H' F' g rp nw => q b v H' F' rfl h g rp nw
theorem sS_set {i : Nat} {m : E} : SndS T Φ ev (.set i m) := fun w s X st G h => by
  unfold ckS at h
  split at h
  rotate_left
  · cases h
  rename_i tg e pos
  unfold ckAsg at h
  dsimp only at h
  split at h
  rotate_left
  · cases h
  rename_i x p
  simp only [Bool.and_eq_true] at h
  refine ps_weak (ps_name G h.1.1 h.1.2) fun D σ H ⟨H0, F0, F, ρ, R, a⟩ => ?_
  refine ⟨H0, F0, F, ρ, R, ?_⟩
  simp only [exS] at a
  exact asg_E R a fun b v H' F' _ a' g rp nw => a' _ H' F' (R.setB g i rp nw) g.f
theorem sS_asg {t : Tg} {m : E} : SndS T Φ ev (.asg t m) := fun w s X st G h => by
  unfold ckS at h
  split at h
  rotate_left
  · cases h
  rename_i tg e pos
  unfold ckAsg at h
  cases t with
  | nm i =>
    dsimp only at h
    split at h
    rotate_left
    · cases h
    rename_i x p
    simp only [Bool.and_eq_true] at h
    refine ps_weak (ps_name G h.1.1 h.1.2) fun D σ H ⟨H0, F0, F, ρ, R, a⟩ => ?_
    refine ⟨H0, F0, F, ρ, R, ?_⟩
    simp only [exS] at a
    refine asg_E R a fun b v H' F' _ a' g rp nw => ?_
    obtain ⟨F2, g2, dq⟩ := rp.freeze g nw
    exact a' _ H' F2 ((R.grow g2).setV i dq) g2.f
  | tp ts =>
    dsimp only at h
    split at h
    rotate_left
    · cases h
    rename_i es k p
    simp only [Bool.and_eq_true] at h
    obtain ⟨⟨⟨h1, h2⟩, h3⟩, h4⟩ := h
    have plainCase : swappedStores [.Tuple es k p] e X.env = pure none → PS X (.Assign [.Tuple es k p] e pos) (tS X.K w Φ (.asg (.tp ts) m)) := fun hsw => by
      have hp : PG X (.Tuple es k p) (gT X.K (.tp ts)) := pgT (.tp ts) G (by unfold ckT; exact h1)
      refine ps_weak (ps_asg (snd m w s X e G h2).1 hp (sw_sole h3) hsw rfl) fun D σ H ⟨H0, F0, F, ρ, R, a⟩ => ?_
      refine ⟨H0, F0, F, ρ, R, ?_⟩
      simp only [exS] at a
      refine asg_E R a fun b v H' F' _ a' g rp nw => ?_
      obtain ⟨F2, g2, dq⟩ := rp.freeze g nw
      cases e1 : bindT (.tp ts) b.d ρ with
      | stuck => rw [e1] at a'; exact a'.elim
      | ex c => 
        rw [e1] at a'
        exact (bindT_noex e1).elim
      | ok ρ1 =>
        rw [e1, bind_ok] at a'
        exact ⟨H0, F0, F2, ρ, b.d, ρ1, R.grow g2, dq, e1, fun σ' R' _ => a' σ' H' F2 R' g2.f⟩
    by_cases hnt : ntup e = true
    · exact plainCase (sst_ntup hnt)
    · cases e <;> try (exact absurd rfl hnt)
      rename_i vs k2 p2
      dsimp only at h4
      rw [Bool.and_eq_true, Bool.or_eq_true] at h4
      obtain ⟨hfk, h4⟩ := h4
      rcases h4 with h4 | h4
      rotate_left
      · exact plainCase (sst_no h4)
      obtain ⟨ms, rfl⟩ : ∃ ms, m = .tup ms := by
        cases m <;> first | exact ⟨_, rfl⟩ | simp [ckE] at h2
      simp only [ckE, Bool.and_eq_true] at h2
      have hbk : X.env.blockKind = .function := blockKind_fn (by rw [G.sc]; exact fnK_ok hfk)
      have nd : X.N.Nodup := by rw [G.N]; exact G.nd
      unfold parOk at h4
      split at h4
      · rename_i x px y py a b
        simp only [Bool.and_eq_true, decide_eq_true_eq, Bool.not_eq_true'] at h4
        obtain ⟨⟨⟨⟨⟨⟨⟨na, nb⟩, kx⟩, ky⟩, hl⟩, hxy⟩, hf⟩, hc⟩ := h4
        have kx' : X.env.kindOf x = some .local := by show X.env.scope.names.lookup x = _; rw [G.sc]; exact kx
        have ky' : X.env.kindOf y = some .local := by show X.env.scope.names.lookup y = _; rw [G.sc]; exact ky
        have hxy' : x ≠ y := by intro e; subst e; simp at hxy
        have hpl := ckTs_all h1
        match ts, h1, hpl with
        | [t1, t2], h1, _ =>
          simp only [ckTs, Bool.and_eq_true] at h1
          obtain ⟨i, rfl, c1⟩ := ck_nm h1.1.2
          obtain ⟨j, rfl, c2⟩ := ck_nm h1.2.1.2
          obtain ⟨hi, _, _⟩ := loc_of G c1
          obtain ⟨hj, _, _⟩ := loc_of G c2
          have hij : i ≠ j := fun e => by subst e; rw [hi] at hj; cases hj; exact hxy' rfl
          refine ps_weak (ps_par G.calm nd hi hj hij kx' ky' (sndL (sndAll ms) G h2.2) (sst_par2 hbk na nb kx' ky' hl hxy' hf hc) (sw_sole (e := .Tuple _ _ _) rfl)) fun D σ H ⟨H0, F0, F, ρ, R, a⟩ => ?_
          refine ⟨H0, F0, F, ρ, R, ?_⟩
          simp only [exS, evE] at a
          cases e1 : evL Φ ρ ms with
          | stuck => rw [e1] at a; exact a
          | ex c => rw [e1] at a; exact fun H' F' g => a σ H' F' (R.gr.trans g)
          | ok ds =>
            rw [e1] at a
            intro us H1 F1 g1 dq
            have hlen := evL_len e1
            have hml := ckL_len h2.2
            match ds, dq with
            | [d1, d2], .cons q1 (.cons q2 .nil) =>
              refine ⟨_, _, rfl, ?_⟩
              simp only [bind_ok, B.d, bindT, bindTs] at a
              exact a _ H1 F1 (((R.grow g1).setV i q1).setV j q2) g1.f
            | [], _ => rw [hml] at hlen; simp at hlen
            | [_], _ => rw [hml] at hlen; simp at hlen
            | _ :: _ :: _ :: _, _ => rw [hml] at hlen; simp at hlen
        | [], _, hpl => simp at hpl
        | [_], _, hpl => simp at hpl
        | _ :: _ :: _ :: _, _, hpl => simp at hpl
      · rename_i x px y py z pz a b c
        simp only [Bool.and_eq_true, decide_eq_true_eq, Bool.not_eq_true'] at h4
        obtain ⟨⟨⟨⟨⟨⟨⟨⟨⟨⟨⟨⟨na, nb⟩, nc⟩, kx⟩, ky⟩, kz⟩, hl⟩, hl2⟩, hxy⟩, hxz⟩, hyz⟩, hf⟩, hc⟩ := h4
        have kx' : X.env.kindOf x = some .local := by show X.env.scope.names.lookup x = _; rw [G.sc]; exact kx
        have ky' : X.env.kindOf y = some .local := by show X.env.scope.names.lookup y = _; rw [G.sc]; exact ky
        have kz' : X.env.kindOf z = some .local := by show X.env.scope.names.lookup z = _; rw [G.sc]; exact kz
        have hxy' : x ≠ y := by intro e; subst e; simp at hxy
        have hxz' : x ≠ z := by intro e; subst e; simp at hxz
        have hyz' : y ≠ z := by intro e; subst e; simp at hyz
        have hpl := ckTs_all h1
        match ts, h1, hpl with
        | [t1, t2, t3], h1, _ =>
          simp only [ckTs, Bool.and_eq_true] at h1
          obtain ⟨i, rfl, c1⟩ := ck_nm h1.1.2
          obtain ⟨j, rfl, c2⟩ := ck_nm h1.2.1.2
          obtain ⟨l, rfl, c3⟩ := ck_nm h1.2.2.1.2
          obtain ⟨hi, _, _⟩ := loc_of G c1
          obtain ⟨hj, _, _⟩ := loc_of G c2
          obtain ⟨hk, _, _⟩ := loc_of G c3
          have hij : i ≠ j := fun e => by subst e; rw [hi] at hj; cases hj; exact hxy' rfl
          have hik : i ≠ l := fun e => by subst e; rw [hi] at hk; cases hk; exact hxz' rfl
          have hjk : j ≠ l := fun e => by subst e; rw [hj] at hk; cases hk; exact hyz' rfl
          refine ps_weak (ps_par3 G.calm nd hi hj hk hij hik hjk kx' ky' kz' (sndL (sndAll ms) G h2.2) (sst_par3 hbk na nb nc kx' ky' kz' hl hl2 hxy' hxz' hyz' hf hc) (sw_sole (e := .Tuple _ _ _) rfl)) fun D σ H ⟨H0, F0, F, ρ, R, a⟩ => ?_
          refine ⟨H0, F0, F, ρ, R, ?_⟩
          simp only [exS, evE] at a
          cases e1 : evL Φ ρ ms with
          | stuck => rw [e1] at a; exact a
          | ex c => rw [e1] at a; exact fun H' F' g => a σ H' F' (R.gr.trans g)
          | ok ds =>
            rw [e1] at a
            intro us H1 F1 g1 dq
            have hlen := evL_len e1
            have hml := ckL_len h2.2
            match ds, dq with
            | [d1, d2, d3], .cons q1 (.cons q2 (.cons q3 .nil)) =>
              refine ⟨_, _, _, rfl, ?_⟩
              simp only [bind_ok, B.d, bindT, bindTs] at a
              exact a _ H1 F1 ((((R.grow g1).setV i q1).setV j q2).setV l q3) g1.f
            | [], _ => rw [hml] at hlen; simp at hlen
            | [_], _ => rw [hml] at hlen; simp at hlen
            | [_, _], _ => rw [hml] at hlen; simp at hlen
            | _ :: _ :: _ :: _ :: _, _ => rw [hml] at hlen; simp at hlen
        | [], _, hpl => simp at hpl
        | [_], _, hpl => simp at hpl
        | [_, _], _, hpl => simp at hpl
        | _ :: _ :: _ :: _ :: _, _, hpl => simp at hpl
      · cases h4
end
end Tg
namespace Tg
open PySem PySem.Spec PyProof.Rows L2
section
variable {T : Tb} {Φ : Fs} {ev : Nat → Value}
theorem sub_asg {X : Cx} {a b : Expr} {p : Pos} : (assignEach [.Subscript a b p] X.env).map (·.2) = [assign (.Subscript a b p) X.env] := rfl
theorem sS_put {i : Nat} {k m : E} : SndS T Φ ev (.put i k m) := fun w s X st G h => by
  unfold ckS at h
  split at h
  rotate_left
  · cases h
  rename_i x px y p e pos
  simp only [Bool.and_eq_true] at h
  obtain ⟨⟨⟨⟨h1, h2⟩, h3⟩, h4⟩, h5⟩ := h
  obtain ⟨v1, v2, v3, v4⟩ := vis_of G h1
  refine ps_weak (ps_asg (snd m w s X e G h3).1 (pg_sub (pe_var (i := i) v1 v2 v3 v4) (peB G h2 (snd k w s X y G h2).1) set_list (fun v => by cases y <;> first | rfl | cases h5)) (sw_sole h4) sst_sub sub_asg) fun D σ H ⟨H0, F0, F, ρ, R, a⟩ => ⟨H0, F0, F, ρ, R, ?_⟩
  simp only [exS] at a
  cases e1 : evE Φ ρ m with
  | stuck => rw [e1] at a; exact a
  | ex c => rw [e1] at a; exact fun H' F' g => a σ H' F' (R.gr.trans g)
  | ok b =>
    rw [e1, bind_ok] at a
    intro v H1 F1 g1 rp nw
    obtain ⟨F1', g1', dq⟩ := rp.freeze g1 nw
    have R1 := R.grow g1'
    unfold putD at a
    split at a
    rotate_left
    · exact a.elim
    rename_i xs e3
    obtain ⟨l, vs, f1, f2, f3, f4, f5⟩ := R1.own i xs e3
    refine ⟨.ref l, f1, H0, F0, F1', ρ, R1, ?_⟩
    cases e2 : bor ρ k (evE Φ ρ k) with
    | stuck => rw [e2] at a; exact a
    | ex c => rw [e2] at a; exact fun H' F' g => a σ H' F' (R1.gr.trans g)
    | ok d =>
      rw [e2, bind_ok] at a
      unfold putK at a
      split at a
      rotate_left
      · exact a.elim
      rename_i n
      intro iv H2 F2 g2 rb
      obtain rfl := rb.int
      unfold setAt at a
      split at a
      · rename_i j ej
        rw [bind_ok] at a
        have R2 := R1.grow g2
        obtain ⟨l', vs', f1', f2', f3', f4', f5'⟩ := R2.own i xs e3
        rw [f1] at f1'; cases f1'
        refine ⟨l, vs', n, j, rfl, rfl, f2', by rw [f5'.length]; exact ej, ?_⟩
        exact a _ _ F2 (R2.change e3 f1 (f5'.set j (Dq.mono g2.f _ _ dq))) (g1'.f.trans g2.f)
      · exact a.elim
theorem sS_app {i : Nat} {m : E} : SndS T Φ ev (.app i m) := fun w s X st G h => by
  unfold ckS at h
  split at h
  rotate_left
  · cases h
  rename_i x px a apos e cpos pos
  simp only [Bool.and_eq_true, decide_eq_true_eq] at h
  obtain ⟨⟨⟨h1, rfl⟩, h3⟩, h4⟩ := h
  obtain ⟨v1, v2, v3, v4⟩ := vis_of G h1
  have hn := ckE_nst h3
  refine ps_weak (ps_expr (pe_bm PySem.F.plainAttrs_list PySem.F.slot_list_append PySem.F.type_list_append mt_append (pe_var (i := i) v1 v2 v3 v4) (pa_cons (snd m w s X e G h3).1 pa_nil (star_cons hn)) rfl (by rw [star_cons hn]; rfl) h4 (star_cons hn) rfl)) fun D σ H ⟨H0, F0, F, ρ, R, a⟩ => ?_
  simp only [exS, appD] at a
  split at a
  rotate_left
  · exact a.elim
  rename_i xs e3
  obtain ⟨l, vs, f1, f2, f3, f4, f5⟩ := R.own i xs e3
  refine ⟨.ref l, f1, .inl ⟨rfl, vs, .inl (.inl f2)⟩, H0, F0, F, ρ, R, ?_⟩
  cases e1 : evE Φ ρ m with
  | stuck => rw [e1] at a; exact a
  | ex c => rw [e1] at a; exact fun H' F' g => a σ H' F' (R.gr.trans g)
  | ok b =>
    rw [e1, bind_ok] at a
    intro v H1 F1 g1 rp nw
    obtain ⟨F1', g1', dq⟩ := rp.freeze g1 nw
    have R1 := R.grow g1'
    unfold appK at a
    split at a
    rotate_left
    · exact a.elim
    rename_i hl
    have hl := line_ok hl
    obtain ⟨l', vs', f1', f2', f3', f4', f5'⟩ := R1.own i xs e3
    rw [f1] at f1'; cases f1'
    exact ⟨l, vs', v, rfl, rfl, f2', by rw [f5'.length]; exact hl, a _ _ F1' (R1.change e3 f1 (f5'.app (.cons dq .nil))) g1'.f⟩
theorem sS_ite {c : E} {a b : List S} (Sa : SndB T Φ ev a) (Sb : SndB T Φ ev b) : SndS T Φ ev (.ite c a b) := fun w s X st G h => by
  unfold ckS at h
  split at h
  rotate_left
  · cases h
  rename_i e x y pos
  simp only [Bool.and_eq_true] at h
  obtain ⟨⟨h1, h2⟩, h3⟩ := h
  refine ps_weak (ps_if (snd c w s X e G h1).2 (Sa w s X x G h2) (Sb w s X y G h3)) fun D σ H ⟨H0, F0, F, ρ, R, q⟩ => ⟨H0, F0, F, ρ, R, ?_⟩
  simp only [exS] at q
  cases e1 : bor ρ c (evE Φ ρ c) with
  | stuck => rw [e1] at q; exact q
  | ex c => rw [e1] at q; exact fun H' F' g => q σ H' F' (R.gr.trans g)
  | ok d =>
    rw [e1, bind_ok] at q
    unfold iteD at q
    split at q
    · intro H1 F1 g
      rw [if_pos rfl]
      exact ⟨H0, F0, F1, ρ, R.grow g, q.mono g.f⟩
    · intro H1 F1 g
      rw [if_neg Bool.false_ne_true]
      exact ⟨H0, F0, F1, ρ, R.grow g, q.mono g.f⟩
    · exact q.elim
theorem sS_ret {m : E} : SndS T Φ ev (.ret m) := fun w s X st G h => by
  unfold ckS at h
  split at h
  rotate_left
  · cases h
  rename_i e pos
  by_cases hv : ∃ i, m = E.var i
  · obtain ⟨i, rfl⟩ := hv
    cases e <;> simp [ckE] at h
    rename_i x px
    obtain ⟨v1, v2, v3, v4⟩ := vis_of G h
    refine ps_weak (ps_ret (pe_var (i := i) v1 v2 v3 v4)) fun D σ H ⟨H0, F0, F, ρ, R, a⟩ => ?_
    simp only [exS, retD, retV] at a
    split at a
    · rename_i b e
      cases b with
      | val d =>
        obtain ⟨v, e1, e2⟩ := R.val i d e
        exact ⟨v, e1, a v H F R.gr e2 trivial⟩
      | own ds =>
        obtain ⟨l, vs, e1, e2, e3, e4, e5⟩ := R.own i ds e
        exact ⟨.ref l, e1, a _ H F R.gr ⟨l, vs, rfl, e2, e3, e5⟩ ⟨l, rfl, e4⟩⟩
    · exact a.elim
  · refine ps_weak (ps_ret (snd m w s X e G h).1) fun D σ H ⟨H0, F0, F, ρ, R, a⟩ => ⟨H0, F0, F, ρ, R, ?_⟩
    have a : AfS X.K w H0 F0 F (do let b ← evE Φ ρ m; .ok (.rt b)) D := by
      cases m <;> first | (simp only [exS, retD] at a; exact a) | exact absurd ⟨_, rfl⟩ hv
    refine asg_E R a fun b v H' F' _ a' g rp nw => a' v H' F' (R.gr.trans g) rp (nw.back R.gr.h)
theorem sS_cont : SndS T Φ ev .cont := fun w s X st G h => by
  unfold ckS at h
  split at h
  rotate_left
  · cases h
  exact ps_weak ps_continue fun D σ H ⟨H0, F0, F, ρ, R, a⟩ => (show AfS X.K w H0 F0 F (.ok (.ct ρ)) D from by simpa only [exS] using a) σ H F R (.refl _)
theorem sS_pass : SndS T Φ ev .pass := fun w s X st G h => by
  unfold ckS at h
  split at h
  rotate_left
  · cases h
  exact ps_weak ps_pass fun D σ H ⟨H0, F0, F, ρ, R, a⟩ => (show AfS X.K w H0 F0 F (.ok (.nx ρ)) D from by simpa only [exS] using a) σ H F R (.refl _)
theorem sS_bad : SndS T Φ ev .bad := fun w s X st G h => ps_weak ps_never fun D σ H ⟨H0, F0, F, ρ, R, a⟩ => (show AfS X.K w H0 F0 F .stuck D from by simpa only [exS] using a)
theorem sS_frz {is : List Nat} {m : S} (Sm : SndS T Φ ev m) : SndS T Φ ev (.frz is m) := fun w s X st G h => by
  have h : ckS T s m st = true := by simpa only [ckS] using h
  refine ps_weak (Sm w s X st G h) fun D σ H ⟨H0, F0, F, ρ, R, a⟩ => ?_
  obtain ⟨F', R', sf⟩ := R.frz is
  exact ⟨H0, F0, F', _, R', AfS.mono (by simpa only [exS] using a) sf⟩
theorem sS_raise {c : Nat} : SndS T Φ ev (.raise c) := fun w s X st G h => by
  unfold ckS at h
  split at h
  rotate_left
  · cases h
  rename_i x p m j p2 pos pos2
  simp only [Bool.and_eq_true, decide_eq_true_eq] at h
  obtain ⟨C, e1, e2, e3, e4, e5⟩ := G.exc c x h.1
  refine ps_weak (ps_raise G.calm G.tk (pmk_own PySem.F.excBase_ValueError e3 e2 e4 e5 (gl_of G h.2).1 (gl_of G h.2).2)) fun D σ H ⟨H0, F0, F, ρ, R, a⟩ => ?_
  exact ⟨c, e1.symm, rfl, (show AfS X.K w H0 F0 F (.ex c) D from by simpa only [exS] using a) σ H F R.gr⟩
theorem sS_for {t : Tg} {k : ItK} {es : List E} {body : List S} (Sb : SndB T Φ ev body) : SndS T Φ ev (.for t k es body) := fun w s X st G h => by
  unfold ckS at h
  split at h
  rotate_left
  · cases h
  rename_i tg iter x pos
  simp only [Bool.and_eq_true] at h
  obtain ⟨⟨⟨h1, h2⟩, h3⟩, h4⟩ := h
  refine ps_weak (ps_for G.po G.calm (sndI (z := false) (sndAll es) G h1 fun e => ?_) (pgT t G h3) (Sb w s X x G h4) (nset_fold (ckIt_nset h1))) fun D σ H ⟨H0, F0, F, ρ, R, a⟩ => ⟨H0, F0, F, ρ, R, ?_⟩
  · subst e
    cases tg <;> simp at h2
    exact ⟨_, _, _, rfl⟩
  simp only [exS] at a
  change AfI false X.K w σ H F (do let ds ← evL Φ ρ es; itD k ds) _
  cases e1 : evL Φ ρ es with
  | stuck => rw [e1] at a; exact a
  | ex c => rw [e1] at a; exact fun H' F' g => a σ H' F' (R.gr.trans g)
  | ok ds =>
    rw [e1, bind_ok] at a
    rw [bind_ok]
    cases e2 : itD k ds with
    | stuck => rw [e2] at a; exact a
    | ex c => exact (noex_it e2).elim
    | ok xs =>
      rw [e2, bind_ok] at a
      intro J H1 F1 g1 hIt
      refine ⟨fun i mm σ2 H2 => mm = xs.length - i ∧ i ≤ xs.length ∧ ∃ F2 ρ2, StR X.K H0 F0 σ2 H2 F2 ρ2 ∧ Same F1 F2 ∧ AfS X.K w H0 F0 F1 (forD (fun d ρ1 => do let ρ2 ← bindT t d ρ1; exL Φ body ρ2) (xs.drop i) ρ2) D,
        ⟨xs.length, by simp, Nat.zero_le _, F1, ρ, R.grow g1, .refl _, a.mono g1.f⟩, ?_⟩
      rintro i mm σ2 H2 ⟨rfl, hi, F2, ρ2, R2, sf, a2⟩
      have hit := hIt i H2 F2 (sf.trans R2.s) sf R2.s
      by_cases hlt : i < xs.length
      · have ed : xs.drop i = xs[i] :: xs.drop (i + 1) := (List.getElem_cons_drop hlt).symm
        rw [ed] at a2
        obtain ⟨hgo, hy⟩ := hit.1 xs[i] (List.getElem?_eq_getElem hlt)
        refine .inr ⟨hgo, fun σ' H' => ∃ F2 ρ2, StR X.K H0 F0 σ' H' F2 ρ2 ∧ Same F1 F2 ∧ AfS X.K w H0 F0 F1 (forD (fun d ρ1 => do let ρ2 ← bindT t d ρ1; exL Φ body ρ2) (xs.drop (i + 1)) ρ2) D,
          fun σ' H' q => ⟨xs.length - (i + 1), by omega, rfl, hlt, q⟩, fun v H3 y => ?_⟩
        obtain ⟨F3, g3, dq⟩ := hy v H3 y
        simp only [forD] at a2
        cases e3 : bindT t xs[i] ρ2 with
        | stuck => rw [e3] at a2; exact a2.elim
        | ex c => exact (bindT_noex e3).elim
        | ok ρ3 =>
          rw [e3, bind_ok] at a2
          have Rg := R2.grow g3
          refine ⟨H0, F0, F3, ρ2, xs[i], ρ3, Rg, dq, e3, fun σ' R' _ => ⟨H0, F0, F3, ρ3, R', ?_⟩⟩
          have s13 : Same F1 F3 := sf.trans g3.f
          cases e4 : exL Φ body ρ3 with
          | stuck => rw [e4] at a2; exact a2
          | ex c => rw [e4] at a2; exact a2
          | ok o =>
            rw [e4] at a2
            cases o with
            | nx ρ4 => exact fun σ4 H4 F4 R4 s4 => ⟨F4, ρ4, R4, s13.trans s4, a2⟩
            | ct ρ4 => exact fun σ4 H4 F4 R4 s4 => ⟨F4, ρ4, R4, s13.trans s4, a2⟩
            | rt b => exact a2
      · have ei : i = xs.length := by omega
        subst ei
        rw [List.drop_length] at a2
        exact .inl ⟨hit.2 rfl, a2 σ2 H2 F2 R2 sf⟩
theorem whlD_fuel {c : En → M D} {f : En → M Out} {ρ : En} (h : whlD c f ρ ≠ .stuck) : ∃ n, whlN c f n ρ = whlD c f ρ := by
  unfold whlD at h ⊢
  split
  · rename_i hx; exact ⟨_, rfl⟩
  · rename_i hx
    rw [dif_neg hx] at h
    exact absurd rfl h
theorem sS_whl {c : E} {body : List S} (Sb : SndB T Φ ev body) : SndS T Φ ev (.whl c body) := fun w s X st G h => by
  unfold ckS at h
  split at h
  rotate_left
  · cases h
  rename_i e x pos
  simp only [Bool.and_eq_true] at h
  refine ps_weak (ps_while G.po (snd c w s X e G h.1).2 (Sb w s X x G h.2)) fun D σ H ⟨H0, F0, F, ρ, R, a⟩ => ?_
  simp only [exS] at a
  obtain ⟨n, hn⟩ : ∃ n, whlN (fun ρ1 => bor ρ1 c (evE Φ ρ1 c)) (fun ρ1 => exL Φ body ρ1) n ρ = whlD (fun ρ1 => bor ρ1 c (evE Φ ρ1 c)) (fun ρ1 => exL Φ body ρ1) ρ := whlD_fuel fun z => by rw [z] at a; exact a
  rw [← hn] at a
  refine ⟨fun m σ1 H1 => ∃ F1 ρ1, StR X.K H0 F0 σ1 H1 F1 ρ1 ∧ Same F F1 ∧ AfS X.K w H0 F0 F (whlN (fun ρ1 => bor ρ1 c (evE Φ ρ1 c)) (fun ρ1 => exL Φ body ρ1) m ρ1) D, ⟨n, F, ρ, R, .refl _, a⟩, ?_⟩
  rintro m σ1 H1 ⟨F1, ρ1, R1, sf, a1⟩
  cases m with
  | zero => exact a1.elim
  | succ m =>
    simp only [whlN] at a1
    refine ⟨H0, F0, F1, ρ1, R1, ?_⟩
    cases e1 : bor ρ1 c (evE Φ ρ1 c) with
    | stuck => rw [e1] at a1; exact a1
    | ex c => rw [e1] at a1; exact fun H' F' g => a1 σ1 H' F' (R1.gr.trans g)
    | ok d =>
      rw [e1] at a1
      cases d with
      | bool b =>
        intro H2 F2 g2
        cases b with
        | false =>
          rw [if_neg Bool.false_ne_true]
          exact a1 σ1 H2 F2 (R1.grow g2) (sf.trans g2.f)
        | true =>
          rw [if_pos rfl]
          refine ⟨fun σ' H' => ∃ F1 ρ1, StR X.K H0 F0 σ' H' F1 ρ1 ∧ Same F F1 ∧ AfS X.K w H0 F0 F (whlN (fun ρ1 => bor ρ1 c (evE Φ ρ1 c)) (fun ρ1 => exL Φ body ρ1) m ρ1) D, fun σ' H' q => ⟨m, by omega, q⟩, ?_⟩
          refine ⟨H0, F0, F2, ρ1, R1.grow g2, ?_⟩
          have s2 : Same F F2 := sf.trans g2.f
          cases e2 : exL Φ body ρ1 with
          | stuck => rw [e2] at a1; exact a1
          | ex c => rw [e2] at a1; exact a1
          | ok o =>
            rw [e2] at a1
            cases o with
            | nx ρ4 => exact fun σ4 H4 F4 R4 s4 => ⟨F4, ρ4, R4, s2.trans s4, a1⟩
            | ct ρ4 => exact fun σ4 H4 F4 R4 s4 => ⟨F4, ρ4, R4, s2.trans s4, a1⟩
            | rt b => exact a1
      | _ => exact a1.elim
theorem sB_nil : SndB T Φ ev [] := fun w s X st G h => by
  cases st with
  | cons => simp [ckB] at h
  | nil => exact pss_weak pss_nil fun D σ H ⟨H0, F0, F, ρ, R, a⟩ => (show AfS X.K w H0 F0 F (.ok (.nx ρ)) D from by simpa only [exL] using a) σ H F R (.refl _)
theorem sB_cons {m : S} {ms : List S} (Sm : SndS T Φ ev m) (Sr : SndB T Φ ev ms) : SndB T Φ ev (m :: ms) := fun w s X st G h => by
  cases st with
  | nil => simp [ckB] at h
  | cons y r =>
    simp only [ckB, Bool.and_eq_true] at h
    refine pss_weak (pss_cons (Sm w s X y G h.1) (Sr w s X r G h.2)) fun D σ H ⟨H0, F0, F, ρ, R, a⟩ => ⟨H0, F0, F, ρ, R, ?_⟩
    simp only [exL, seqD'] at a
    cases e : exS Φ m ρ with
    | stuck => rw [e] at a; exact a
    | ex c => rw [e] at a; exact a
    | ok o =>
      rw [e] at a
      cases o with
      | nx ρ1 => exact fun σ1 H1 F1 R1 s1 => ⟨H0, F0, F1, ρ1, R1, a.mono s1⟩
      | ct ρ1 => exact a
      | rt b => exact a
mutual
theorem sndS : ∀ m : S, SndS T Φ ev m
  | .asg t e => sS_asg
  | .set i e => sS_set
  | .put i k e => sS_put
  | .app i e => sS_app
  | .ite c a b => sS_ite (sndB a) (sndB b)
  | .for t k es body => sS_for (sndB body)
  | .whl c body => sS_whl (sndB body)
  | .ret e => sS_ret
  | .cont => sS_cont
  | .pass => sS_pass
  | .frz is s => sS_frz (sndS s)
  | .raise c => sS_raise
  | .bad => sS_bad
theorem sndB : ∀ ms : List S, SndB T Φ ev ms
  | [] => sB_nil
  | m :: ms => sB_cons (sndS m) (sndB ms)
end
end
end Tg
namespace Tg
open PySem PySem.Spec PyProof.Rows L2
section
variable {P : Program} {w : World} {K : PySem.W.Frag} {mg : Str → Option Value} {base : Heap}
structure Can (P : Program) (w : World) (K : PySem.W.Frag) (mg : Str → Option Value) (base : Heap) (ev : Nat → Value) (lvl : Nat) (x : Str) (den : List D → M B) : Prop where
  ex : ∃ f fd ps, mg x = some (.ref f) ∧ FnOk P w K mg base (L2.CX P w) lvl f fd ps (spP K ps.length den ev) ∧ (∀ ds, ds.length ≠ ps.length → den ds = .stuck) ∧ PySem.W.keepIn K (.ref f) = true ∧ Binds K fd ps []
theorem Can.mono {ev : Nat → Value} {l l' : Nat} {x : Str} {den : List D → M B} (c : Can P w K mg base ev l x den) (h : l ≤ l') : Can P w K mg base ev l' x den :=
  let ⟨f, fd, ps, h1, h2, h3⟩ := c.ex; ⟨⟨f, fd, ps, h1, h2.mono h, h3⟩⟩
structure ExcAt (K : PySem.W.Frag) (mg : Str → Option Value) (ev : Nat → Value) (k : Nat) (x : Str) : Prop where
  ex : ∃ C, ev k = .ref C ∧ mg x = some (.ref C) ∧ PySem.W.excIn K C HandSPX.veTail "ValueError.__new__" = true ∧ PySem.W.keepIn K (.ref C) = true ∧ PySem.W.subIn K (.ref C) (.type "BaseException") = some true ∧ PySem.W.typeIn K (.ref C) = some (.type "type")
theorem runF_len {Φ : Fs} {n m : Nat} {body : List S} : ∀ ds : List D, ds.length ≠ n → runF Φ n m body ds = .stuck := fun ds h => by
  unfold runF
  rw [if_neg h]
theorem dq_vals {F : Hp} : ∀ {ds : List D} {vs : List V}, DqAll K F vs ds → ∀ (i : Nat) (d : D), ds[i]? = some d → ∃ v, vs[i]? = some v ∧ Dq K F v d := fun h i d e => h.get e
theorem start_ok {H F : Hp} {N : List Str} {vs : List V} {ds : List D} (s : Same F H) (h : DqAll K F vs ds) (hl : vs.length ≤ N.length) : StR K H F (L2.start N vs) H F (entry ds.length N.length ds) := by
  unfold entry
  have hlen := h.length
  refine ⟨.refl s, ?_, fun i d e => ?_, fun i es e => ?_, fun i j es es' l ne e1 => ?_⟩
  · unfold L2.start
    rw [List.length_append, List.length_append, List.length_map, List.length_map, List.length_replicate, List.length_replicate, hlen]
  · unfold L2.start
    rw [List.getElem?_append] at e ⊢
    rw [List.length_map] at e ⊢
    split at e
    · rename_i hi
      rw [List.getElem?_map] at e
      cases q : ds[i]? with
      | none => rw [q] at e; cases e
      | some d' =>
        rw [q] at e
        simp only [Option.map_some, Option.some.injEq, B.val.injEq] at e
        subst e
        obtain ⟨v, e1, e2⟩ := h.get q
        rw [if_pos (by omega), List.getElem?_map, e1]
        exact ⟨v, rfl, e2⟩
    · rw [List.getElem?_replicate] at e
      split at e <;> cases e
  · rw [List.getElem?_append] at e
    split at e
    · rw [List.getElem?_map] at e
      cases q : ds[i]? with
      | none => rw [q] at e; cases e
      | some d' => rw [q] at e; cases e
    · rw [List.getElem?_replicate] at e
      split at e <;> cases e
  · rw [List.getElem?_append] at e1
    split at e1
    · rw [List.getElem?_map] at e1
      cases q : ds[i]? with
      | none => rw [q] at e1; cases e1
      | some d' => rw [q] at e1; cases e1
    · rw [List.getElem?_replicate] at e1
      split at e1 <;> cases e1
theorem fnOk {T : Tb} {Φ : Fs} {ev : Nat → Value} {lvl : Nat} {x qual : Str} {st : Stmt} {f : Addr} {fd : FuncData} {ps : List Str} {body : List S}
    (F : Fun K x qual st f fd) (S : FnScope T.N ps (defScope st)) (hck : ckB T ⟨defScope st, fun _ => true⟩ body (defBody st) = true) (hps : ps.length ≤ T.N.length)
    (hc : ∀ (k : Nat) (y : Str), T.cal[k]? = some y → Can P w K mg base ev lvl y (Φ k))
    (hb : ∀ y ∈ bltNames, mg y = none)
    (hcon : ∀ (k : Nat) (y : Str) (d : D), T.con[k]? = some (y, d) → ∃ v u, mg y = some u ∧ RelV v u ∧ ∀ F, Dq K F v d)
    (hexc : ∀ (k : Nat) (y : Str), T.exc[k]? = some y → ExcAt K mg ev k y) :
    FnOk P w K mg base (L2.CX P w) (lvl + 1) f fd ps (spP K ps.length (runF Φ ps.length T.N.length body) ev) := by
  refine F.okX S (fun vs H Q E h => ?_) (fun cdv A outer s H vs Q E hr h => ?_)
  · obtain ⟨_, _, h1, _⟩ := h; exact h1
  · obtain ⟨Fz, ds, hl, sm, dq, h⟩ := h
    have G : Good T Φ (fun c _ H => E (ev c) none H) ev ⟨defScope st, fun _ => true⟩ (cxOf (L2.CX P w) P w K mg base T.N qual (defScope st) f cdv A outer s H E) :=
      { N := rfl, nd := S.nd, calm := rfl, units := by have := hr.un; show (A.deeper _).units + 65 < cLine; omega, sc := rfl, fn := rfl,
        calls := fun k y e => by
          obtain ⟨g, gd, qs, h1, h2, h3, h4, h5⟩ := (hc k y e).ex
          exact ⟨g, gd, qs, lvl, h1, hr, h2, h3, h4, h5⟩
        blt := hb, con := hcon,
        tk := Takes.imp (takes_of rfl rfl rfl rfl) fun c d σ H ⟨k, e1, e2, z⟩ => by subst e1; subst e2; exact z
        po := passes_of rfl
        exc := fun k y e => by
          obtain ⟨C, e1, e2, e3, e4, e5, e6⟩ := (hexc k y e).ex
          exact ⟨C, e1, e2, e3, e4, raises_own e5 e6⟩ }
    refine ⟨_, sndB body _ _ _ _ G hck, H, Fz, Fz, _, start_ok sm dq (by rw [hl]; exact hps), ?_⟩
    unfold runF at h
    have hdl : ds.length = ps.length := by rw [← dq.length]; exact hl
    rw [if_pos hdl] at h
    rw [hdl]
    cases e : exL Φ body (entry ps.length T.N.length ds) with
    | stuck => rw [e] at h; exact h
    | ex c => rw [e] at h; exact fun σ H' F' g => h H' F' g
    | ok o =>
      rw [e] at h
      cases o with
      | nx ρ => exact fun σ H' F' R _ => h .non H' F' R.gr .non trivial
      | ct ρ => exact h.elim
      | rt b => exact fun v H' F' g rp nw => h v H' F' g rp nw
theorem can_of {T : Tb} {Φ : Fs} {ev : Nat → Value} {lvl : Nat} {x qual : Str} {st : Stmt} {f : Addr} {fd : FuncData} {ps : List Str} {body : List S}
    (F : Fun K x qual st f fd) (hx : mg x = some (.ref f)) (hbd : Binds K fd ps []) (S : FnScope T.N ps (defScope st)) (hck : ckB T ⟨defScope st, fun _ => true⟩ body (defBody st) = true) (hps : ps.length ≤ T.N.length)
    (hc : ∀ (k : Nat) (y : Str), T.cal[k]? = some y → Can P w K mg base ev lvl y (Φ k))
    (hb : ∀ y ∈ bltNames, mg y = none)
    (hcon : ∀ (k : Nat) (y : Str) (d : D), T.con[k]? = some (y, d) → ∃ v u, mg y = some u ∧ RelV v u ∧ ∀ F, Dq K F v d)
    (hexc : ∀ (k : Nat) (y : Str), T.exc[k]? = some y → ExcAt K mg ev k y) : Can P w K mg base ev (lvl + 1) x (runF Φ ps.length T.N.length body) :=
  ⟨⟨f, fd, ps, hx, fnOk F S hck hps hc hb hcon hexc, runF_len, F.kp, hbd⟩⟩
theorem calls_nil {ev : Nat → Value} {lvl : Nat} : ∀ (k : Nat) (y : Str), ([] : List Str)[k]? = some y → Can P w K mg base ev lvl y (phi [] k) := fun k y e => by simp at e
theorem calls_cons {ev : Nat → Value} {l lvl : Nat} {x : Str} {d : List D → M B} {cal : List Str} {r : List (List D → M B)} (c : Can P w K mg base ev l x d) (hl : l ≤ lvl)
    (h : ∀ (k : Nat) (y : Str), cal[k]? = some y → Can P w K mg base ev lvl y (phi r k)) : ∀ (k : Nat) (y : Str), (x :: cal)[k]? = some y → Can P w K mg base ev lvl y (phi (d :: r) k)
  | 0, y, e => by
    simp only [List.getElem?_cons_zero, Option.some.injEq] at e
    subst e
    exact c.mono hl
  | k + 1, y, e => h k y (by simpa using e)
theorem con_nil : ∀ (k : Nat) (y : Str) (d : D), ([] : List (Str × D))[k]? = some (y, d) → ∃ v u, mg y = some u ∧ RelV v u ∧ ∀ F, Dq K F v d := fun k y d e => by simp at e
theorem con_cons {x : Str} {c : D} {r : List (Str × D)} (h1 : ∃ v u, mg x = some u ∧ RelV v u ∧ ∀ F, Dq K F v c) (h : ∀ (k : Nat) (y : Str) (d : D), r[k]? = some (y, d) → ∃ v u, mg y = some u ∧ RelV v u ∧ ∀ F, Dq K F v d) :
    ∀ (k : Nat) (y : Str) (d : D), ((x, c) :: r)[k]? = some (y, d) → ∃ v u, mg y = some u ∧ RelV v u ∧ ∀ F, Dq K F v d
  | 0, y, d, e => by
    simp only [List.getElem?_cons_zero, Option.some.injEq, Prod.mk.injEq] at e
    obtain ⟨rfl, rfl⟩ := e
    exact h1
  | k + 1, y, d, e => h k y d (by simpa using e)
def evOf : List Addr → Nat → Value
  | [], _ => .none
  | c :: _, 0 => .ref c
  | _ :: r, k + 1 => evOf r k
theorem exc_nil {ev : Nat → Value} : ∀ (k : Nat) (y : Str), ([] : List Str)[k]? = some y → ExcAt K mg ev k y := fun k y e => by simp at e
structure At (K : PySem.W.Frag) (x : Str) (st : Stmt) (f : Addr) : Prop where
  ex : ∃ (oc kV dc pm cd ct : Value) (od an : Option Addr) (sl : Array (Option Value)), PySem.W.nsIn K mainGlobals x = some (some (.ref f)) ∧
    K.lookup f = some ⟨oc, od, .func (PySem.W.fnOf x x (defArgs st) (defBody st) (defScope st) .none kV dc pm an cd ct), sl⟩ ∧ PySem.W.codeIn K cd x = true ∧ PySem.W.keepIn K (.ref f) = true
theorem at_mk {x : Str} {st : Stmt} {f : Addr} {oc kV dc pm cd ct : Value} {od an : Option Addr} {sl : Array (Option Value)} (a : PySem.W.nsIn K mainGlobals x = some (some (.ref f)))
    (l : K.lookup f = some ⟨oc, od, .func (PySem.W.fnOf x x (defArgs st) (defBody st) (defScope st) .none kV dc pm an cd ct), sl⟩) (c : PySem.W.codeIn K cd x = true) (k : PySem.W.keepIn K (.ref f) = true) : At K x st f :=
  ⟨⟨oc, kV, dc, pm, cd, ct, od, an, sl, a, l, c, k⟩⟩
theorem At.fn {x : Str} {st : Stmt} {f : Addr} {h : Heap} (A : At K x st f) (X : K.In h) (G : h.Ns mainGlobals mg) : mg x = some (.ref f) ∧ ∃ (kV dc pm cd ct : Value) (an : Option Addr), Fun K x x st f (PySem.W.fnOf x x (defArgs st) (defBody st) (defScope st) .none kV dc pm an cd ct) := by
  obtain ⟨oc, kV, dc, pm, cd, ct, od, an, sl, a, l, c, k⟩ := A.ex
  exact ⟨PySem.W.mg_of X G a, kV, dc, pm, cd, ct, an, fun_mk l c k⟩
structure Free (K : PySem.W.Frag) : Prop where
  all : ∀ y ∈ bltNames, PySem.W.nsIn K mainGlobals y = some none
theorem free_mk (z0 : PySem.W.nsIn K mainGlobals "abs" = some none) (z1 : PySem.W.nsIn K mainGlobals "len" = some none) (z2 : PySem.W.nsIn K mainGlobals "int" = some none) (z3 : PySem.W.nsIn K mainGlobals "list" = some none) (z4 : PySem.W.nsIn K mainGlobals "tuple" = some none) (z5 : PySem.W.nsIn K mainGlobals "sum" = some none) (z6 : PySem.W.nsIn K mainGlobals "all" = some none) (z7 : PySem.W.nsIn K mainGlobals "min" = some none) (z8 : PySem.W.nsIn K mainGlobals "max" = some none) (z9 : PySem.W.nsIn K mainGlobals "sorted" = some none) (z10 : PySem.W.nsIn K mainGlobals "range" = some none) (z11 : PySem.W.nsIn K mainGlobals "zip" = some none) (z12 : PySem.W.nsIn K mainGlobals "reversed" = some none) (z13 : PySem.W.nsIn K mainGlobals "isinstance" = some none) (z14 : PySem.W.nsIn K mainGlobals "bool" = some none) (z15 : PySem.W.nsIn K mainGlobals "str" = some none) : Free K := ⟨fun y hy => by
  simp only [bltNames, List.mem_cons, List.not_mem_nil, or_false] at hy
  rcases hy with rfl | rfl | rfl | rfl | rfl | rfl | rfl | rfl | rfl | rfl | rfl | rfl | rfl | rfl | rfl | rfl <;> assumption⟩
theorem blt_all {h : Heap} (X : K.In h) (G : h.Ns mainGlobals mg) (z : Free K) : ∀ y ∈ bltNames, mg y = none := fun y hy => PySem.W.mg_none_of X G (z.all y hy)
theorem law_sp {den : List D → M B} {ev : Nat → Value} {H : Hp} {a : Addr} {ns : List Int} (h : SqL K H a (ns.map V.int)) (e : den [.list (ns.map PyData.int)] = .ok (.val (.bool true))) :
    spP K 1 den ev [.ref a] H (fun v _ => v = .bl true) fun _ _ _ => False := by
  refine ⟨H, [.list (ns.map PyData.int)], rfl, .refl _, .cons (.lst h (dq_ints ns)) .nil, ?_⟩
  rw [e]
  intro v H' F' g rp nw
  cases (show Dq K F' v (.bool true) from rp)
  rfl
theorem no_exc (w : World) (P : Program) (H : Hp) (s : Shared) (e : Value) (s' : Shared) (h : L2.CX P w [] H s (fun _ _ _ => False) e s') : False := by
  obtain ⟨_, _, _, _, _, _, _, _, _, _, _, _, z⟩ := h
  exact z
end
end Tg
namespace Tg
open PySem
theorem whlN_mono {c : En → M D} {f : En → M Out} : ∀ {n m : Nat} {ρ : En}, n ≤ m → whlN c f n ρ ≠ .stuck → whlN c f m ρ = whlN c f n ρ
  | 0, _, _, _, h => absurd rfl h
  | n + 1, 0, _, hl, _ => by omega
  | n + 1, m + 1, ρ, hl, h => by
    simp only [whlN] at h ⊢
    cases e : c ρ with
    | stuck => rfl
    | ex k => rfl
    | ok d =>
      rw [e] at h
      cases d with
      | bool b =>
        cases b with
        | false => rfl
        | true =>
          dsimp only at h ⊢
          cases e2 : f ρ with
          | stuck => rfl
          | ex k => rfl
          | ok o =>
            rw [e2] at h
            cases o with
            | nx ρ1 => exact whlN_mono (Nat.le_of_succ_le_succ hl) h
            | ct ρ1 => exact whlN_mono (Nat.le_of_succ_le_succ hl) h
            | rt b => rfl
      | _ => rfl
theorem whlD_of {c : En → M D} {f : En → M Out} {ρ : En} {n : Nat} (h : whlN c f n ρ ≠ .stuck) : whlD c f ρ = whlN c f n ρ := by
  have hx : ∃ n, whlN c f n ρ ≠ .stuck := ⟨n, h⟩
  have h2 := Classical.choose_spec hx
  have e : whlD c f ρ = whlN c f (Classical.choose hx) ρ := by
    unfold whlD
    rw [dif_pos hx]
  rw [e]
  by_cases hl : n ≤ Classical.choose hx
  · exact whlN_mono hl h
  · exact (whlN_mono (by omega) h2).symm
theorem whlD_false {c : En → M D} {f : En → M Out} {ρ : En} (h : c ρ = .ok (.bool false)) : whlD c f ρ = .ok (.nx ρ) := by
  have e : whlN c f 1 ρ = .ok (.nx ρ) := by simp only [whlN, h]
  rw [whlD_of (n := 1) (by rw [e]; exact fun z => nomatch z), e]
theorem whlD_true {c : En → M D} {f : En → M Out} {ρ ρ1 : En} {r : M Out} (h : c ρ = .ok (.bool true)) (h1 : f ρ = .ok (.nx ρ1)) (h2 : whlD c f ρ1 = r) (hr : r ≠ .stuck) : whlD c f ρ = r := by
  obtain ⟨n, hn⟩ := whlD_fuel (c := c) (f := f) (ρ := ρ1) (by rw [h2]; exact hr)
  have e : whlN c f (n + 1) ρ = r := by simp only [whlN, h, h1]; rw [hn, h2]
  rw [whlD_of (n := n + 1) (by rw [e]; exact hr), e]
theorem whlD_rt {c : En → M D} {f : En → M Out} {ρ : En} {b : B} (h : c ρ = .ok (.bool true)) (h1 : f ρ = .ok (.rt b)) : whlD c f ρ = .ok (.rt b) := by
  have e : whlN c f 1 ρ = .ok (.rt b) := by simp only [whlN, h, h1]
  rw [whlD_of (n := 1) (by rw [e]; exact fun z => nomatch z), e]
theorem whl_by {c : En → M D} {f : En → M Out} (Pv : En → Prop) (μ : En → Nat) (Qv : En → Prop) (h : ∀ ρ, Pv ρ → (c ρ = .ok (.bool false) ∧ Qv ρ) ∨ (c ρ = .ok (.bool true) ∧ ∃ ρ1, f ρ = .ok (.nx ρ1) ∧ Pv ρ1 ∧ μ ρ1 < μ ρ)) :
    ∀ ρ, Pv ρ → ∃ ρ1, whlD c f ρ = .ok (.nx ρ1) ∧ Qv ρ1 := by
  have key : ∀ n ρ, μ ρ ≤ n → Pv ρ → ∃ ρ1, whlD c f ρ = .ok (.nx ρ1) ∧ Qv ρ1 := by
    intro n
    induction n with
    | zero =>
      intro ρ hn hp
      rcases h ρ hp with ⟨h1, h2⟩ | ⟨_, ρ1, _, _, h4⟩
      · exact ⟨ρ, whlD_false h1, h2⟩
      · omega
    | succ n ih =>
      intro ρ hn hp
      rcases h ρ hp with ⟨h1, h2⟩ | ⟨h1, ρ1, h2, h3, h4⟩
      · exact ⟨ρ, whlD_false h1, h2⟩
      · obtain ⟨ρ2, q1, q2⟩ := ih ρ1 (by omega) h3
        exact ⟨ρ2, whlD_true h1 h2 q1 (fun z => nomatch z), q2⟩
  exact fun ρ hp => key (μ ρ) ρ (Nat.le_refl _) hp
theorem for_by {f : D → En → M Out} {xs : List D} (Pv : Nat → En → Prop) {ρ : En} (h0 : Pv 0 ρ) (hs : ∀ (i : Nat) (d : D) (ρ : En), xs[i]? = some d → Pv i ρ → ∃ ρ1, (f d ρ = .ok (.nx ρ1) ∨ f d ρ = .ok (.ct ρ1)) ∧ Pv (i + 1) ρ1) :
    ∃ ρ1, forD f xs ρ = .ok (.nx ρ1) ∧ Pv xs.length ρ1 := by
  have key : ∀ (ys : List D) (i : Nat) (ρ : En), xs.drop i = ys → i ≤ xs.length → Pv i ρ → ∃ ρ1, forD f ys ρ = .ok (.nx ρ1) ∧ Pv xs.length ρ1 := by
    intro ys
    induction ys with
    | nil =>
      intro i ρ e hi hp
      have : i = xs.length := by
        have := congrArg List.length e
        rw [List.length_drop, List.length_nil] at this
        omega
      subst this
      exact ⟨ρ, rfl, hp⟩
    | cons d ys ih =>
      intro i ρ e hi hp
      have hlt : i < xs.length := by
        have := congrArg List.length e
        rw [List.length_drop, List.length_cons] at this
        omega
      have e2 : xs[i] :: xs.drop (i + 1) = d :: ys := by rw [List.getElem_cons_drop hlt]; exact e
      obtain ⟨ed, ey⟩ := List.cons.inj e2
      obtain ⟨ρ1, h1, h2⟩ := hs i d ρ (by rw [List.getElem?_eq_getElem hlt, ed]) hp
      obtain ⟨ρ2, q1, q2⟩ := ih (i + 1) ρ1 ey hlt h2
      refine ⟨ρ2, ?_, q2⟩
      simp only [forD]
      rcases h1 with h1 | h1 <;> rw [h1] <;> exact q1
  exact key xs 0 ρ rfl (Nat.zero_le _) h0
theorem lcD_map {f : D → M (Option D)} {g : D → D} : ∀ {xs : List D}, (∀ d ∈ xs, f d = .ok (some (g d))) → lcD f xs = .ok (xs.map g)
  | [], _ => rfl
  | d :: ds, h => by
    simp only [lcD, h d List.mem_cons_self]
    rw [lcD_map fun x hx => h x (List.mem_cons_of_mem _ hx)]
    rfl
theorem lcD_filter {f : D → M (Option D)} {g : D → Option D} : ∀ {xs : List D}, (∀ d ∈ xs, f d = .ok (g d)) → lcD f xs = .ok (xs.filterMap g)
  | [], _ => rfl
  | d :: ds, h => by
    have ih := lcD_filter fun x hx => h x (List.mem_cons_of_mem d hx)
    simp only [lcD, h d List.mem_cons_self]
    cases e : g d with
    | none => dsimp only; rw [ih, List.filterMap_cons, e]
    | some x => dsimp only; rw [ih, List.filterMap_cons, e]
section
variable {ρ : En} {r : M B} {d : D} {ds : List D} {b' : B} {i j : Int} {xs ys : List D}
theorem lookE_val : lookE (some (some (.val d))) = .ok (.val d) := rfl
theorem lookB_val : lookB (some (some (.val d))) = .ok d := rfl
theorem lookB_own : lookB (some (some (.own ds))) = .ok (.list ds) := rfl
theorem bor_var {n : Nat} : bor ρ (.var n) r = lookB ρ[n]? := rfl
theorem bor_con : bor ρ (.con d) r = valM r := rfl
theorem bor_glob {k : Nat} : bor ρ (.glob k d) r = valM r := rfl
theorem bor_tup {es : List E} : bor ρ (.tup es) r = valM r := rfl
theorem bor_lst {es : List E} : bor ρ (.lst es) r = valM r := rfl
theorem bor_rep {es : List E} {b : E} : bor ρ (.rep es b) r = valM r := rfl
theorem bor_bop {o : BOp} {a b : E} : bor ρ (.bop o a b) r = valM r := rfl
theorem bor_neg {a : E} : bor ρ (.neg a) r = valM r := rfl
theorem bor_not {a : E} : bor ρ (.not a) r = valM r := rfl
theorem bor_and {a b : E} : bor ρ (.and a b) r = valM r := rfl
theorem bor_or {a b : E} : bor ρ (.or a b) r = valM r := rfl
theorem bor_cmp {o : COp} {a b : E} : bor ρ (.cmp o a b) r = valM r := rfl
theorem bor_ix {a b : E} : bor ρ (.ix a b) r = valM r := rfl
theorem bor_sl {a : E} {lo hi : List E} : bor ρ (.sl a lo hi) r = valM r := rfl
theorem bor_bi {f : Bi} {es : List E} : bor ρ (.bi f es) r = valM r := rfl
theorem bor_isi {a : E} {t : Ty} : bor ρ (.isi a t) r = valM r := rfl
theorem bor_call {k : Nat} {es : List E} : bor ρ (.call k es) r = valM r := rfl
theorem bor_lc {e : E} {t : Tg} {k : ItK} {es c : List E} {own : List Nat} : bor ρ (.lc e t k es c own) r = valM r := rfl
theorem valM_ok : valM (.ok b') = .ok b'.d := rfl
theorem valM_stuck : valM .stuck = .stuck := rfl
theorem valM_ex {c : Nat} : valM (.ex c) = .ex c := rfl
theorem d_val : (B.val d).d = d := rfl
theorem d_own : (B.own ds).d = .list ds := rfl
theorem negD_i : negD (.int i) = .ok (.val (.int (-i))) := rfl
theorem notD_b {b : Bool} : notD (.bool b) = .ok (.val (.bool (!b))) := rfl
theorem andD_t : andD (.bool true) r = r := rfl
theorem andD_f : andD (.bool false) r = .ok (.val (.bool false)) := rfl
theorem orD_f : orD (.bool false) r = r := rfl
theorem orD_t : orD (.bool true) r = .ok (.val (.bool true)) := rfl
theorem andD_b {b c : Bool} : andD (.bool b) (.ok (.val (.bool c))) = .ok (.val (.bool (b && c))) := by cases b <;> rfl
theorem orD_b {b c : Bool} : orD (.bool b) (.ok (.val (.bool c))) = .ok (.val (.bool (b || c))) := by cases b <;> rfl
theorem add_ii : bopD .add (.int i) (.int j) = .ok (.val (.int (i + j))) := rfl
theorem sub_ii : bopD .sub (.int i) (.int j) = .ok (.val (.int (i - j))) := rfl
theorem mul_ii : bopD .mul (.int i) (.int j) = if mulOk i j then .ok (.val (.int (i * j))) else .stuck := rfl
theorem fdiv_ii : bopD .fdiv (.int i) (.int j) = if divOk i j then .ok (.val (.int (i.fdiv j))) else .stuck := rfl
theorem mod_ii : bopD .mod (.int i) (.int j) = if j != 0 then .ok (.val (.int (i.fmod j))) else .stuck := rfl
theorem pow_ii : bopD .pow (.int i) (.int j) = if decide (0 ≤ j) && decide (j ≤ 1000000) && decide (i.natAbs < 2 ^ 64) then .ok (.val (.int (i ^ j.toNat))) else .stuck := rfl
theorem add_ll : bopD .add (.list xs) (.list ys) = if lineOk (xs.length + ys.length) then .ok (.own (xs ++ ys)) else .stuck := rfl
theorem add_tt : bopD .add (.tuple xs) (.tuple ys) = if lineOk (xs.length + ys.length) then .ok (.val (.tuple (xs ++ ys))) else .stuck := rfl
theorem lt_ii : cmpD .lt (.int i) (.int j) = .ok (.val (.bool (decide (i < j)))) := rfl
theorem le_ii : cmpD .le (.int i) (.int j) = .ok (.val (.bool (decide (i ≤ j)))) := rfl
theorem gt_ii : cmpD .gt (.int i) (.int j) = .ok (.val (.bool (decide (j < i)))) := rfl
theorem ge_ii : cmpD .ge (.int i) (.int j) = .ok (.val (.bool (decide (j ≤ i)))) := rfl
theorem eq_dd {x y : D} : cmpD .eq x y = if eqOk x y then .ok (.val (.bool (PyData.eqv x y))) else .stuck := rfl
theorem ne_dd {x y : D} : cmpD .ne x y = if eqOk x y then .ok (.val (.bool (!PyData.eqv x y))) else .stuck := rfl
theorem in_dl {x : D} : cmpD .isIn x (.list ys) = if eqOk x (.list ys) then .ok (.val (.bool (ys.any fun z => PyData.eqv z x))) else .stuck := rfl
theorem nin_dl {x : D} : cmpD .notIn x (.list ys) = if eqOk x (.list ys) then .ok (.val (.bool (!ys.any fun z => PyData.eqv z x))) else .stuck := rfl
theorem isN_d {x : D} : cmpD .isN x .none = .ok (.val (.bool (nonD x))) := rfl
theorem notN_d {x : D} : cmpD .notN x .none = .ok (.val (.bool (!nonD x))) := rfl
theorem isB_bb {b c : Bool} : cmpD .isB (.bool b) (.bool c) = .ok (.val (.bool (decide (b = c)))) := rfl
theorem notB_bb {b c : Bool} : cmpD .notB (.bool b) (.bool c) = .ok (.val (.bool (!decide (b = c)))) := rfl
def ixO (o : Option D) : M B := match o with | some d => .ok (.val d) | none => .stuck
theorem ix_l : ixD (.list xs) (.int i) = ixO (L2.atI xs i) := rfl
theorem ix_t : ixD (.tuple xs) (.int i) = ixO (L2.atI xs i) := rfl
theorem ixO_some : ixO (some d) = .ok (.val d) := rfl
theorem at_0 : L2.atI (d :: xs) 0 = some d := L2.atI_nat (j := 0) rfl
theorem at_1 {d1 : D} : L2.atI (d :: d1 :: xs) 1 = some d1 := L2.atI_nat (j := 1) rfl
theorem at_2 {d1 d2 : D} : L2.atI (d :: d1 :: d2 :: xs) 2 = some d2 := L2.atI_nat (j := 2) rfl
theorem at_3 {d1 d2 d3 : D} : L2.atI (d :: d1 :: d2 :: d3 :: xs) 3 = some d3 := L2.atI_nat (j := 3) rfl
theorem iteD_t {a b : M Out} : iteD (.bool true) a b = a := rfl
theorem iteD_f {a b : M Out} : iteD (.bool false) a b = b := rfl
theorem iteD_b {c : Bool} {a b : M Out} : iteD (.bool c) a b = if c then a else b := by cases c <;> rfl
theorem seqD_nx {k : En → M Out} : seqD' (.ok (.nx ρ)) k = k ρ := rfl
theorem seqD_rt {b : B} {k : En → M Out} : seqD' (.ok (.rt b)) k = .ok (.rt b) := rfl
theorem seqD_ct {k : En → M Out} : seqD' (.ok (.ct ρ)) k = .ok (.ct ρ) := rfl
theorem seqD_ex {c : Nat} {k : En → M Out} : seqD' (.ex c) k = .ex c := rfl
theorem seqD_ite {c : Prop} [Decidable c] {a b : M Out} {k : En → M Out} : seqD' (if c then a else b) k = if c then seqD' a k else seqD' b k := by split <;> rfl
theorem ret_var {n : Nat} : retD ρ (.var n) r = retV ρ[n]? := rfl
theorem retV_b : retV (some (some b')) = .ok (.rt b') := rfl
theorem end_rt : endD (.ok (.rt b')) = .ok b' := rfl
theorem end_nx : endD (.ok (.nx ρ)) = .ok (.val .none) := rfl
theorem end_ex {c : Nat} : endD (.ex c) = .ex c := rfl
theorem end_ite {c : Prop} [Decidable c] {a b : M Out} : endD (if c then a else b) = if c then endD a else endD b := by split <;> rfl
theorem ret_con : retD ρ (.con d) r = (do let b ← r; .ok (.rt b)) := rfl
theorem ret_glob {k : Nat} : retD ρ (.glob k d) r = (do let b ← r; .ok (.rt b)) := rfl
theorem ret_tup {es : List E} : retD ρ (.tup es) r = (do let b ← r; .ok (.rt b)) := rfl
theorem ret_lst {es : List E} : retD ρ (.lst es) r = (do let b ← r; .ok (.rt b)) := rfl
theorem ret_rep {es : List E} {b : E} : retD ρ (.rep es b) r = (do let b ← r; .ok (.rt b)) := rfl
theorem ret_bop {o : BOp} {a b : E} : retD ρ (.bop o a b) r = (do let b ← r; .ok (.rt b)) := rfl
theorem ret_neg {a : E} : retD ρ (.neg a) r = (do let b ← r; .ok (.rt b)) := rfl
theorem ret_not {a : E} : retD ρ (.not a) r = (do let b ← r; .ok (.rt b)) := rfl
theorem ret_and {a b : E} : retD ρ (.and a b) r = (do let b ← r; .ok (.rt b)) := rfl
theorem ret_or {a b : E} : retD ρ (.or a b) r = (do let b ← r; .ok (.rt b)) := rfl
theorem ret_cmp {o : COp} {a b : E} : retD ρ (.cmp o a b) r = (do let b ← r; .ok (.rt b)) := rfl
theorem ret_ix {a b : E} : retD ρ (.ix a b) r = (do let b ← r; .ok (.rt b)) := rfl
theorem ret_sl {a : E} {lo hi : List E} : retD ρ (.sl a lo hi) r = (do let b ← r; .ok (.rt b)) := rfl
theorem ret_bi {f : Bi} {es : List E} : retD ρ (.bi f es) r = (do let b ← r; .ok (.rt b)) := rfl
theorem ret_isi {a : E} {t : Ty} : retD ρ (.isi a t) r = (do let b ← r; .ok (.rt b)) := rfl
theorem ret_call {k : Nat} {es : List E} : retD ρ (.call k es) r = (do let b ← r; .ok (.rt b)) := rfl
theorem ret_lc {e : E} {t : Tg} {k : ItK} {es c : List E} {own : List Nat} : retD ρ (.lc e t k es c own) r = (do let b ← r; .ok (.rt b)) := rfl
end
theorem run_of {Φ : Fs} {n m : Nat} {body : List S} {ds : List D} {ρ : En} {r : M B} (hl : ds.length = n) (he : entry n m ds = ρ) (h : endD (exL Φ body ρ) = r) : runF Φ n m body ds = r := by
  unfold runF
  rw [if_pos hl, he, h]
theorem isi_ii {i : Int} : isiD .int (.int i) = .ok (.val (.bool true)) := rfl
theorem isi_ib {b : Bool} : isiD .int (.bool b) = .ok (.val (.bool true)) := rfl
theorem isi_it {xs : List D} : isiD .int (.tuple xs) = .ok (.val (.bool false)) := rfl
theorem isi_il {xs : List D} : isiD .int (.list xs) = .ok (.val (.bool false)) := rfl
theorem isi_in : isiD .int .none = .ok (.val (.bool false)) := rfl
theorem isi_bi {i : Int} : isiD .bool (.int i) = .ok (.val (.bool false)) := rfl
theorem isi_bb {b : Bool} : isiD .bool (.bool b) = .ok (.val (.bool true)) := rfl
theorem isi_tt {xs : List D} : isiD .tuple (.tuple xs) = .ok (.val (.bool true)) := rfl
theorem isi_tl {xs : List D} : isiD .tuple (.list xs) = .ok (.val (.bool false)) := rfl
theorem isi_ti {i : Int} : isiD .tuple (.int i) = .ok (.val (.bool false)) := rfl
theorem isi_tn : isiD .tuple .none = .ok (.val (.bool false)) := rfl
theorem isi_ll {xs : List D} : isiD .list (.list xs) = .ok (.val (.bool true)) := rfl
theorem isi_lt {xs : List D} : isiD .list (.tuple xs) = .ok (.val (.bool false)) := rfl
theorem bi_abs {i : Int} : biD .abs [.int i] = .ok (.val (.int (if i < 0 then -i else i))) := rfl
theorem bi_len_l {xs : List D} : biD .len [.list xs] = .ok (.val (.int xs.length)) := rfl
theorem bi_len_t {xs : List D} : biD .len [.tuple xs] = .ok (.val (.int xs.length)) := rfl
theorem bi_int_i {i : Int} : biD .int [.int i] = .ok (.val (.int i)) := rfl
theorem bi_int_b {b : Bool} : biD .int [.bool b] = .ok (.val (.int (if b then 1 else 0))) := rfl
theorem bi_list_l {xs : List D} : biD .list [.list xs] = .ok (.own xs) := rfl
theorem bi_list_t {xs : List D} : biD .list [.tuple xs] = .ok (.own xs) := rfl
theorem bi_tuple_l {xs : List D} : biD .tuple [.list xs] = .ok (.val (.tuple xs)) := rfl
theorem bi_tuple_t {xs : List D} : biD .tuple [.tuple xs] = .ok (.val (.tuple xs)) := rfl
def sumO (o : Option (List Int)) : M B := match o with | some ns => .ok (.val (.int ns.sum)) | none => .stuck
def allO (o : Option (List Bool)) : M B := match o with | some bs => .ok (.val (.bool (bs.all id))) | none => .stuck
theorem bi_sum {xs : List D} : biD .sum [.list xs] = sumO (intsD xs) := rfl
theorem bi_all {xs : List D} : biD .all [.list xs] = allO (boolsD xs) := rfl
theorem sumO_some {ns : List Int} : sumO (some ns) = .ok (.val (.int ns.sum)) := rfl
theorem allO_some {ns : List Bool} : allO (some ns) = .ok (.val (.bool (ns.all id))) := rfl
theorem bi_min2 {i j : Int} : biD .min [.int i, .int j] = .ok (.val (.int (if j < i then j else i))) := rfl
theorem bi_max2 {i j : Int} : biD .max [.int i, .int j] = .ok (.val (.int (if j > i then j else i))) := rfl
theorem part_0 : partD [] = .ok none := rfl
theorem part_1 {i : Int} : partD [.int i] = .ok (some i) := rfl
theorem sl_l {xs : List D} {lo hi : Option Int} : slD (.list xs) lo hi = .ok (.own (cutD xs lo hi)) := rfl
theorem sl_t {xs : List D} {lo hi : Option Int} : slD (.tuple xs) lo hi = .ok (.val (.tuple (cutD xs lo hi))) := rfl
theorem bindT_nm {i : Nat} {d : D} {ρ : En} : bindT (.nm i) d ρ = .ok (ρ.set i (some (.val d))) := rfl
theorem bindT_tp {ts : List Tg} {ds : List D} {ρ : En} : bindT (.tp ts) (.tuple ds) ρ = bindTs ts ds ρ := rfl
theorem bindT_tl {ts : List Tg} {ds : List D} {ρ : En} : bindT (.tp ts) (.list ds) ρ = bindTs ts ds ρ := rfl
theorem bindTs_nil {ρ : En} : bindTs [] [] ρ = .ok ρ := rfl
theorem bindTs_cons {t : Tg} {ts : List Tg} {d : D} {ds : List D} {ρ : En} : bindTs (t :: ts) (d :: ds) ρ = (do let ρ1 ← bindT t d ρ; bindTs ts ds ρ1) := rfl
theorem it_seq {d : D} : itD .seq [d] = seqD d := rfl
theorem it_rng1 {n : Int} : itD .rng [.int n] = if smallI n then .ok (rngD 0 1 n.toNat) else .stuck := rfl
theorem it_rng2 {i j : Int} : itD .rng [.int i, .int j] = if smallI i && smallI j then .ok (rngD i 1 (j - i).toNat) else .stuck := rfl
theorem it_zip_t {xs ys : List D} : itD .zip [.tuple xs, .tuple ys] = .ok (zipD xs ys) := rfl
theorem it_zip_l {xs ys : List D} : itD .zip [.list xs, .list ys] = .ok (zipD xs ys) := rfl
theorem it_rev {d : D} : itD .rev [d] = (do let xs ← seqD d; .ok xs.reverse) := rfl
theorem turn_0 {r : M B} : turnD [] r = (do let b ← r; .ok (some b.d)) := rfl
theorem turn_t {r : M B} : turnD [.bool true] r = (do let b ← r; .ok (some b.d)) := rfl
theorem turn_f {r : M B} : turnD [.bool false] r = .ok none := rfl
theorem phi_0 {f : List D → M B} {r : List (List D → M B)} {ds : List D} : phi (f :: r) 0 ds = f ds := rfl
theorem phi_1 {f g : List D → M B} {r : List (List D → M B)} {ds : List D} : phi (f :: g :: r) 1 ds = g ds := rfl
theorem phi_2 {f g h : List D → M B} {r : List (List D → M B)} {ds : List D} : phi (f :: g :: h :: r) 2 ds = h ds := rfl
theorem phi_s {f g h k : List D → M B} {r : List (List D → M B)} {n : Nat} {ds : List D} : phi (f :: g :: h :: k :: r) (n + 3) ds = phi (k :: r) n ds := rfl
noncomputable def forF (Φ : Fs) (t : Tg) (body : List S) (d : D) (ρ : En) : M Out := do let ρ2 ← bindT t d ρ; exL Φ body ρ2
def whlC (Φ : Fs) (c : E) (ρ : En) : M D := bor ρ c (evE Φ ρ c)
noncomputable def whlF (Φ : Fs) (body : List S) (ρ : En) : M Out := exL Φ body ρ
noncomputable def nextD (Φ : Fs) (ss : List S) (r : M Out) : M Out := seqD' r (fun ρ1 => exL Φ ss ρ1)
def lcO (r : M (List D)) : M B := do let ds ← r; .ok (.own ds)
section
variable {Φ : Fs} {ρ : En} {ss a' b' body : List S} {s : S} {e c k' : E} {t : Tg} {i : Nat} {k : ItK} {es cs : List E} {own : List Nat} {d : D} {ds : List D}
theorem exL_nil : exL Φ [] ρ = .ok (.nx ρ) := by simp only [exL]
theorem exL_cons : exL Φ (s :: ss) ρ = nextD Φ ss (exS Φ s ρ) := by simp only [exL]; rfl
theorem next_nx : nextD Φ ss (.ok (.nx ρ)) = exL Φ ss ρ := rfl
theorem next_rt {b : B} : nextD Φ ss (.ok (.rt b)) = .ok (.rt b) := rfl
theorem next_ct : nextD Φ ss (.ok (.ct ρ)) = .ok (.ct ρ) := rfl
theorem next_ex {n : Nat} : nextD Φ ss (.ex n) = .ex n := rfl
theorem next_ite {q : Prop} [Decidable q] {x y : M Out} : nextD Φ ss (if q then x else y) = if q then nextD Φ ss x else nextD Φ ss y := by split <;> rfl
theorem S_asg : exS Φ (.asg t e) ρ = (do let b ← evE Φ ρ e; let ρ1 ← bindT t b.d ρ; .ok (.nx ρ1)) := by simp only [exS]
theorem S_set : exS Φ (.set i e) ρ = (do let b ← evE Φ ρ e; .ok (.nx (ρ.set i (some b)))) := by simp only [exS]
theorem S_put : exS Φ (.put i k' e) ρ = (do let b ← evE Φ ρ e; putD ρ i ρ[i]? (bor ρ k' (evE Φ ρ k')) b.d) := by simp only [exS]
theorem S_app : exS Φ (.app i e) ρ = appD ρ i ρ[i]? (evE Φ ρ e) := by simp only [exS]
theorem S_ite : exS Φ (.ite c a' b') ρ = (do let x ← bor ρ c (evE Φ ρ c); iteD x (exL Φ a' ρ) (exL Φ b' ρ)) := by simp only [exS]
theorem S_for : exS Φ (.for t k es body) ρ = (do let ds ← evL Φ ρ es; let xs ← itD k ds; forD (forF Φ t body) xs ρ) := by simp only [exS]; rfl
theorem S_whl : exS Φ (.whl c body) ρ = whlD (whlC Φ c) (whlF Φ body) ρ := by simp only [exS]; rfl
theorem S_ret : exS Φ (.ret e) ρ = retD ρ e (evE Φ ρ e) := by simp only [exS]
theorem S_cont : exS Φ .cont ρ = .ok (.ct ρ) := by simp only [exS]
theorem S_pass : exS Φ .pass ρ = .ok (.nx ρ) := by simp only [exS]
theorem S_frz {is : List Nat} : exS Φ (.frz is s) ρ = exS Φ s (frzE ρ is) := by simp only [exS]
theorem S_raise {n : Nat} : exS Φ (.raise n) ρ = .ex n := by simp only [exS]
theorem put_own {xs : List D} {j : D} {v : D} : putD ρ i (some (some (.own xs))) (.ok j) v = putK ρ i xs j v := rfl
theorem putK_i {xs : List D} {n : Int} {v : D} : putK ρ i xs (.int n) v = (do let ys ← setAt xs n v; .ok (.nx (ρ.set i (some (.own ys))))) := rfl
theorem app_own {xs : List D} {b : B} : appD ρ i (some (some (.own xs))) (.ok b) = appK ρ i xs b.d := rfl
theorem app_ok {xs : List D} {v : D} (h : lineOk xs.length = true) : appK ρ i xs v = .ok (.nx (ρ.set i (some (.own (xs ++ [v]))))) := by unfold appK; rw [if_pos h]
theorem frz_nil : frzE ρ [] = ρ := rfl
def frzK (ρ : En) (i : Nat) (is : List Nat) (o : Option (Option B)) : En := match o with
  | some (some (.own ds)) => frzE (ρ.set i (some (.val (.list ds)))) is
  | _ => frzE ρ is
theorem frz_cons {is : List Nat} : frzE ρ (i :: is) = frzK ρ i is ρ[i]? := by
  unfold frzK
  rw [frzE]
  all_goals (split <;> split <;> simp_all)
theorem frzK_own {is : List Nat} : frzK ρ i is (some (some (.own ds))) = frzE (ρ.set i (some (.val (.list ds)))) is := rfl
theorem frzK_val {is : List Nat} : frzK ρ i is (some (some (.val d))) = frzE ρ is := rfl
theorem E_var : evE Φ ρ (.var i) = lookE ρ[i]? := by simp only [evE]
theorem E_con : evE Φ ρ (.con d) = .ok (.val d) := by simp only [evE]
theorem E_glob : evE Φ ρ (.glob i d) = .ok (.val d) := by simp only [evE]
theorem E_tup : evE Φ ρ (.tup es) = (do let ds ← evL Φ ρ es; .ok (.val (.tuple ds))) := by simp only [evE]
theorem E_lst : evE Φ ρ (.lst es) = (do let ds ← evL Φ ρ es; .ok (.own ds)) := by simp only [evE]
theorem E_rep : evE Φ ρ (.rep es e) = (do let ds ← evL Φ ρ es; let y ← bor ρ e (evE Φ ρ e); repD ds y) := by simp only [evE]
theorem E_bop {o : BOp} : evE Φ ρ (.bop o e c) = (do let x ← bor ρ e (evE Φ ρ e); let y ← bor ρ c (evE Φ ρ c); bopD o x y) := by simp only [evE]
theorem E_neg : evE Φ ρ (.neg e) = (do let x ← bor ρ e (evE Φ ρ e); negD x) := by simp only [evE]
theorem E_not : evE Φ ρ (.not e) = (do let x ← bor ρ e (evE Φ ρ e); notD x) := by simp only [evE]
theorem E_and : evE Φ ρ (.and e c) = (do let x ← bor ρ e (evE Φ ρ e); andD x (evE Φ ρ c)) := by simp only [evE]
theorem E_or : evE Φ ρ (.or e c) = (do let x ← bor ρ e (evE Φ ρ e); orD x (evE Φ ρ c)) := by simp only [evE]
theorem E_cmp {o : COp} : evE Φ ρ (.cmp o e c) = (do let x ← bor ρ e (evE Φ ρ e); let y ← bor ρ c (evE Φ ρ c); cmpD o x y) := by simp only [evE]
theorem E_ix : evE Φ ρ (.ix e c) = (do let x ← bor ρ e (evE Φ ρ e); let y ← bor ρ c (evE Φ ρ c); ixD x y) := by simp only [evE]
theorem E_sl {lo hi : List E} : evE Φ ρ (.sl e lo hi) = (do let x ← bor ρ e (evE Φ ρ e); let l ← evL Φ ρ lo; let l' ← partD l; let u ← evL Φ ρ hi; let u' ← partD u; slD x l' u') := by simp only [evE]
theorem E_bi {f : Bi} : evE Φ ρ (.bi f es) = (do let ds ← evBs Φ ρ es; biD f ds) := by simp only [evE]
theorem E_isi {y : Ty} : evE Φ ρ (.isi e y) = (do let x ← bor ρ e (evE Φ ρ e); isiD y x) := by simp only [evE]
theorem E_call : evE Φ ρ (.call i es) = (do let ds ← evL Φ ρ es; Φ i ds) := by simp only [evE]
theorem E_lc : evE Φ ρ (.lc e t k es cs own) = (do let ds ← evBs Φ ρ es; let xs ← itD k ds; if lineOk xs.length then lcO (lcD (lcF Φ ρ e t cs own) xs) else .stuck) := by simp only [evE]; rfl
theorem lcO_ok : lcO (.ok ds) = .ok (.own ds) := rfl
theorem L_nil : evL Φ ρ [] = .ok [] := by simp only [evL]
theorem L_cons : evL Φ ρ (e :: es) = (do let b ← evE Φ ρ e; let ds ← evL Φ ρ es; .ok (b.d :: ds)) := by simp only [evL]
theorem Bs_nil : evBs Φ ρ [] = .ok [] := by simp only [evBs]
theorem Bs_cons : evBs Φ ρ (e :: es) = (do let b ← bor ρ e (evE Φ ρ e); let ds ← evBs Φ ρ es; .ok (b :: ds)) := by simp only [evBs]
theorem forF_eq : forF Φ t body d ρ = (do let ρ2 ← bindT t d ρ; exL Φ body ρ2) := rfl
theorem whlC_eq : whlC Φ c ρ = bor ρ c (evE Φ ρ c) := rfl
theorem whlF_eq : whlF Φ body ρ = exL Φ body ρ := rfl
theorem lcF_eq : lcF Φ ρ e t cs own d = (do let ρ1 ← bindT t d (wipeN ρ own); let ds ← evBs Φ ρ1 cs; turnD ds (evE Φ ρ1 e)) := rfl
theorem wipe_nil : wipeN ρ [] = ρ := rfl
theorem wipe_cons {vs : List Nat} : wipeN ρ (i :: vs) = (wipeN ρ vs).set i none := rfl
def forK (f : D → En → M Out) (ds : List D) (r : M Out) : M Out := match r with
  | .ok (.nx ρ1) => forD f ds ρ1
  | .ok (.ct ρ1) => forD f ds ρ1
  | o => o
theorem for_nil {f : D → En → M Out} : forD f [] ρ = .ok (.nx ρ) := rfl
theorem for_cons {f : D → En → M Out} : forD f (d :: ds) ρ = forK f ds (f d ρ) := rfl
theorem forK_nx {f : D → En → M Out} : forK f ds (.ok (.nx ρ)) = forD f ds ρ := rfl
theorem forK_ct {f : D → En → M Out} : forK f ds (.ok (.ct ρ)) = forD f ds ρ := rfl
theorem forK_rt {f : D → En → M Out} {b : B} : forK f ds (.ok (.rt b)) = .ok (.rt b) := rfl
def lcK (o : M (Option D)) (r : M (List D)) : M (List D) := match o with
  | .ok (some x) => (match r with | .ok ys => .ok (x :: ys) | _ => .stuck)
  | .ok none => r
  | _ => .stuck
theorem lc_nil {f : D → M (Option D)} : lcD f [] = .ok [] := rfl
theorem lc_cons {f : D → M (Option D)} : lcD f (d :: ds) = lcK (f d) (lcD f ds) := rfl
theorem lcK_some {xs : List D} : lcK (.ok (some d)) (.ok xs) = .ok (d :: xs) := rfl
theorem lcK_none {r : M (List D)} : lcK (.ok none) r = r := rfl
end
theorem fdiv_pos {i j : Int} (h : 0 < j) : i.fdiv j = i / j := Int.fdiv_eq_ediv_of_nonneg i (by omega)
theorem fmod_pos {i j : Int} (h : 0 < j) : i.fmod j = i % j := Int.fmod_eq_emod_of_nonneg i (by omega)
theorem divOk_of {i j : Int} (h : j ≠ 0) (hl : j.natAbs < 2 ^ 9000) : divOk i j = true := by
  unfold divOk
  have : j.natAbs.log2 < 9000 := by
    by_cases h0 : j.natAbs = 0
    · omega
    · exact (Nat.log2_lt h0).mpr hl
  rw [PyProof.noPylong_of_log2 this]
  simp [h]
theorem mulOk_of {i j : Int} {a b : Nat} (ha : i.natAbs < 2 ^ a) (hb : j.natAbs < 2 ^ b) (h : a + b ≤ 1000000) : mulOk i j = true := by
  unfold mulOk
  refine decide_eq_true ?_
  have l : ∀ {n k : Nat}, n < 2 ^ k → n.log2 < k + 1 ∧ (n ≠ 0 → n.log2 < k) := fun {n k} h => by
    by_cases h0 : n = 0
    · subst h0; exact ⟨by rw [show Nat.log2 0 = 0 by decide +kernel]; omega, fun z => absurd rfl z⟩
    · have := (Nat.log2_lt h0).mpr h
      exact ⟨by omega, fun _ => this⟩
  by_cases h1 : i.natAbs = 0
  · rw [h1, show Nat.log2 0 = 0 by decide +kernel]
    by_cases h2 : j.natAbs = 0
    · rw [h2, show Nat.log2 0 = 0 by decide +kernel]; omega
    · have := (l hb).2 h2; omega
  · have := (l ha).2 h1
    by_cases h2 : j.natAbs = 0
    · rw [h2, show Nat.log2 0 = 0 by decide +kernel]; omega
    · have := (l hb).2 h2; omega
theorem eqv_int (a b : Int) : PyData.eqv (.int a) (.int b) = (a == b) := by simp only [PyData.eqv]
theorem eqOk_int (a b : Int) : eqOk (.int a) (.int b) = true := by
  unfold eqOk SeqAt.shaped
  simp [PyData.canLay0, PyData.depth]
theorem itL {xs : List D} : seqD (.list xs) = .ok xs := rfl
theorem itT {xs : List D} : seqD (.tuple xs) = .ok xs := rfl
theorem pow10_9 : bopD .pow (.int 10) (.int 9) = .ok (.val (.int (10 ^ 9))) := by rw [pow_ii, if_pos (by decide)]; rfl
theorem pow10_10 : bopD .pow (.int 10) (.int 10) = .ok (.val (.int (10 ^ 10))) := by rw [pow_ii, if_pos (by decide)]; rfl
theorem pow10_12 : bopD .pow (.int 10) (.int 12) = .ok (.val (.int (10 ^ 12))) := by rw [pow_ii, if_pos (by decide)]; rfl
theorem pow10_15 : bopD .pow (.int 10) (.int 15) = .ok (.val (.int (10 ^ 15))) := by rw [pow_ii, if_pos (by decide)]; rfl
theorem pow10_20 : bopD .pow (.int 10) (.int 20) = .ok (.val (.int (10 ^ 20))) := by rw [pow_ii, if_pos (by decide)]; rfl
theorem pow10_30 : bopD .pow (.int 10) (.int 30) = .ok (.val (.int (10 ^ 30))) := by rw [pow_ii, if_pos (by decide)]; rfl
theorem pow10_60 : bopD .pow (.int 10) (.int 60) = .ok (.val (.int (10 ^ 60))) := by rw [pow_ii, if_pos (by decide)]; rfl
theorem pow10_120 : bopD .pow (.int 10) (.int 120) = .ok (.val (.int (10 ^ 120))) := by rw [pow_ii, if_pos (by decide)]; rfl
theorem small_nat {n : Int} (h0 : 0 ≤ n) (h : n < 1000000000) : smallI n = true := by
  unfold smallI
  rw [Bool.and_eq_true]
  exact ⟨decide_eq_true (by omega), decide_eq_true (by omega)⟩
theorem line_lt {n : Nat} (h : n < 1000000) : lineOk n = true := decide_eq_true h
theorem mul_ii' {i j : Int} (h : mulOk i j = true) : bopD .mul (.int i) (.int j) = .ok (.val (.int (i * j))) := by rw [mul_ii, if_pos h]
theorem fdiv_ii' {i j : Int} (h : divOk i j = true) : bopD .fdiv (.int i) (.int j) = .ok (.val (.int (i.fdiv j))) := by rw [fdiv_ii, if_pos h]
theorem mod_ii' {i j : Int} (h : j ≠ 0) : bopD .mod (.int i) (.int j) = .ok (.val (.int (i.fmod j))) := by rw [mod_ii, if_pos (by simpa using h)]
theorem eq_ii {i j : Int} : cmpD .eq (.int i) (.int j) = .ok (.val (.bool (i == j))) := by rw [eq_dd, eqOk_int, if_pos rfl, eqv_int]
theorem ne_ii {i j : Int} : cmpD .ne (.int i) (.int j) = .ok (.val (.bool (!(i == j)))) := by rw [ne_dd, eqOk_int, if_pos rfl, eqv_int]
theorem bd_add {a b : Int} {n m : Nat} (ha : a.natAbs < 2 ^ n) (hb : b.natAbs < 2 ^ m) : (a + b).natAbs < 2 ^ (max n m + 1) := by
  have h1 : 2 ^ n ≤ 2 ^ max n m := Nat.pow_le_pow_right (by decide) (Nat.le_max_left _ _)
  have h2 : 2 ^ m ≤ 2 ^ max n m := Nat.pow_le_pow_right (by decide) (Nat.le_max_right _ _)
  rw [Nat.pow_succ]
  omega
theorem bd_sub {a b : Int} {n m : Nat} (ha : a.natAbs < 2 ^ n) (hb : b.natAbs < 2 ^ m) : (a - b).natAbs < 2 ^ (max n m + 1) := by
  have h1 : 2 ^ n ≤ 2 ^ max n m := Nat.pow_le_pow_right (by decide) (Nat.le_max_left _ _)
  have h2 : 2 ^ m ≤ 2 ^ max n m := Nat.pow_le_pow_right (by decide) (Nat.le_max_right _ _)
  rw [Nat.pow_succ]
  omega
theorem bd_neg {a : Int} {n : Nat} (ha : a.natAbs < 2 ^ n) : (-a).natAbs < 2 ^ n := by rwa [Int.natAbs_neg]
theorem bd_mul {a b : Int} {n m : Nat} (ha : a.natAbs < 2 ^ n) (hb : b.natAbs < 2 ^ m) : (a * b).natAbs < 2 ^ (n + m) := by
  rw [Int.natAbs_mul, Nat.pow_add]
  exact Nat.mul_lt_mul'' ha hb
theorem bd_lit {a : Int} {n : Nat} (e : n = 8) (h : a.natAbs < 256) : a.natAbs < 2 ^ n := by subst e; exact h
theorem bd_mono {a : Int} {n m : Nat} (h : a.natAbs < 2 ^ n) (hl : n ≤ m) : a.natAbs < 2 ^ m := Nat.lt_of_lt_of_le h (Nat.pow_le_pow_right (by decide) hl)
theorem bd_mod {a b : Int} {n : Nat} (h0 : 0 < b) (hb : b.natAbs ≤ 2 ^ n) : (a % b).natAbs < 2 ^ n := by
  have h1 := Int.emod_nonneg a (show b ≠ 0 by omega)
  have h2 := Int.emod_lt_of_pos a h0
  omega
theorem for_in {C : M Out → Prop} {f : D → En → M Out} {xs : List D} {ρ : En} (Pv : Nat → En → Prop) (h0 : Pv 0 ρ) (hs : ∀ (i : Nat) (d : D) (ρ : En), xs[i]? = some d → Pv i ρ → ∃ ρ1, (f d ρ = .ok (.nx ρ1) ∨ f d ρ = .ok (.ct ρ1)) ∧ Pv (i + 1) ρ1)
    (hd : ∀ ρ1, Pv xs.length ρ1 → C (.ok (.nx ρ1))) : C (forD f xs ρ) := by
  obtain ⟨ρ1, h1, h2⟩ := for_by Pv h0 hs
  rw [h1]
  exact hd ρ1 h2
theorem for_go {Φ : Fs} {ss : List S} {r : M B} {f : D → En → M Out} {xs : List D} {ρ : En} (Pv : Nat → En → Prop) (h0 : Pv 0 ρ) (hs : ∀ (i : Nat) (d : D) (ρ : En), xs[i]? = some d → Pv i ρ → ∃ ρ1, (f d ρ = .ok (.nx ρ1) ∨ f d ρ = .ok (.ct ρ1)) ∧ Pv (i + 1) ρ1)
    (hd : ∀ ρ1, Pv xs.length ρ1 → endD (exL Φ ss ρ1) = r) : endD (nextD Φ ss (forD f xs ρ)) = r := for_in (C := fun z => endD (nextD Φ ss z) = r) Pv h0 hs hd
theorem whl_in {C : M Out → Prop} {c : En → M D} {f : En → M Out} {ρ : En} (Pv : En → Prop) (μ : En → Nat) (Qv : En → Prop) (h0 : Pv ρ) (h : ∀ ρ, Pv ρ → (c ρ = .ok (.bool false) ∧ Qv ρ) ∨ (c ρ = .ok (.bool true) ∧ ∃ ρ1, f ρ = .ok (.nx ρ1) ∧ Pv ρ1 ∧ μ ρ1 < μ ρ))
    (hd : ∀ ρ1, Qv ρ1 → C (.ok (.nx ρ1))) : C (whlD c f ρ) := by
  obtain ⟨ρ1, h1, h2⟩ := whl_by Pv μ Qv h ρ h0
  rw [h1]
  exact hd ρ1 h2
theorem whl_go {Φ : Fs} {ss : List S} {r : M B} {c : En → M D} {f : En → M Out} {ρ : En} (Pv : En → Prop) (μ : En → Nat) (Qv : En → Prop) (h0 : Pv ρ) (h : ∀ ρ, Pv ρ → (c ρ = .ok (.bool false) ∧ Qv ρ) ∨ (c ρ = .ok (.bool true) ∧ ∃ ρ1, f ρ = .ok (.nx ρ1) ∧ Pv ρ1 ∧ μ ρ1 < μ ρ))
    (hd : ∀ ρ1, Qv ρ1 → endD (exL Φ ss ρ1) = r) : endD (nextD Φ ss (whlD c f ρ)) = r := whl_in (C := fun z => endD (nextD Φ ss z) = r) Pv μ Qv h0 h hd
theorem mem_cut {xs : List D} {lo hi : Option Int} {d : D} (h : d ∈ cutD xs lo hi) : d ∈ xs := List.mem_of_mem_drop (List.mem_of_mem_take h)
theorem cut_ints {ns : List Int} {lo hi : Option Int} {d : D} (h : d ∈ cutD (ns.map PyData.int) lo hi) : ∃ n ∈ ns, d = .int n := by
  obtain ⟨n, hn, e⟩ := List.mem_map.mp (mem_cut h)
  exact ⟨n, hn, e.symm⟩
theorem mod_rng {a b : Int} (h : 0 < b) : 0 ≤ a % b ∧ a % b < b := ⟨Int.emod_nonneg _ (by omega), Int.emod_lt_of_pos _ h⟩
end Tg
namespace Tg
open PySem PySem.Spec PyProof.Rows L2
structure ExcK (K : PySem.W.Frag) (x : Str) (C : Addr) : Prop where
  a : PySem.W.nsIn K mainGlobals x = some (some (.ref C))
  b : PySem.W.excIn K C HandSPX.veTail "ValueError.__new__" = true
  c : PySem.W.keepIn K (.ref C) = true
  d : PySem.W.subIn K (.ref C) (.type "BaseException") = some true
  e : PySem.W.typeIn K (.ref C) = some (.type "type")
theorem exck_mk {K : PySem.W.Frag} {x : Str} {C : Addr} (a : PySem.W.nsIn K mainGlobals x = some (some (.ref C))) (b : PySem.W.excIn K C HandSPX.veTail "ValueError.__new__" = true)
    (c : PySem.W.keepIn K (.ref C) = true) (d : PySem.W.subIn K (.ref C) (.type "BaseException") = some true) (e : PySem.W.typeIn K (.ref C) = some (.type "type")) : ExcK K x C := ⟨a, b, c, d, e⟩
def evK (K : PySem.W.Frag) (xs : List Str) (k : Nat) : Value := match xs[k]? with
  | some x => (match PySem.W.nsIn K mainGlobals x with
    | some (some v) => v
    | _ => .none)
  | none => .none
abbrev spK (K : PySem.W.Frag) (n : Nat) (den : List D → M B) (xs : List Str) : Sp := spP K n den (evK K xs)
theorem hx_nil {K : PySem.W.Frag} : ∀ (k : Nat) (y : Str), ([] : List Str)[k]? = some y → ∃ C, ExcK K y C := fun k y e => by simp at e
theorem hx_cons {K : PySem.W.Frag} {x : Str} {xs : List Str} {C : Addr} (h : ExcK K x C) (r : ∀ (k : Nat) (y : Str), xs[k]? = some y → ∃ C, ExcK K y C) :
    ∀ (k : Nat) (y : Str), (x :: xs)[k]? = some y → ∃ D, ExcK K y D
  | 0, y, e => by
    simp only [List.getElem?_cons_zero, Option.some.injEq] at e
    subst e
    exact ⟨C, h⟩
  | k + 1, y, e => r k y (by simpa using e)
theorem hx_of {K : PySem.W.Frag} {mg : Str → Option Value} {h : Heap} {xs : List Str} (X : K.In h) (G : h.Ns mainGlobals mg) (r : ∀ (k : Nat) (y : Str), xs[k]? = some y → ∃ C, ExcK K y C) :
    ∀ (k : Nat) (y : Str), xs[k]? = some y → ExcAt K mg (evK K xs) k y := fun k y e => by
  obtain ⟨C, h2⟩ := r k y e
  refine ⟨⟨C, ?_, PySem.W.mg_of X G h2.a, h2.b, h2.c, h2.d, h2.e⟩⟩
  unfold evK
  rw [e]
  dsimp only
  rw [h2.a]
theorem for_fold {α σ : Type} {f : D → En → M Out} {g : α → D} {step : σ → α → σ} (Rel : σ → En → Prop) : ∀ {xs : List α} {s : σ} {ρ : En},
    (∀ x ∈ xs, ∀ (s : σ) (ρ : En), Rel s ρ → ∃ ρ1, (f (g x) ρ = .ok (.nx ρ1) ∨ f (g x) ρ = .ok (.ct ρ1)) ∧ Rel (step s x) ρ1) → Rel s ρ → ∃ ρ1, forD f (xs.map g) ρ = .ok (.nx ρ1) ∧ Rel (xs.foldl step s) ρ1
  | [], s, ρ, _, h => ⟨ρ, rfl, h⟩
  | x :: xs, s, ρ, hs, h => by
    obtain ⟨ρ1, h1, h2⟩ := hs x List.mem_cons_self s ρ h
    obtain ⟨ρ2, q1, q2⟩ := for_fold Rel (xs := xs) (fun y hy => hs y (List.mem_cons_of_mem _ hy)) h2
    refine ⟨ρ2, ?_, q2⟩
    rw [List.map_cons, for_cons]
    rcases h1 with h1 | h1 <;> rw [h1] <;> exact q1
theorem lc_map {α : Type} {f : D → M (Option D)} {a b : α → D} : ∀ {xs : List α}, (∀ x ∈ xs, f (a x) = .ok (some (b x))) → lcD f (xs.map a) = .ok (xs.map b)
  | [], _ => rfl
  | x :: xs, h => by
    rw [List.map_cons, lc_cons, h x List.mem_cons_self, lc_map fun y hy => h y (List.mem_cons_of_mem _ hy)]
    rfl
theorem rng_map {n : Nat} : ∀ {lo c : Int}, rngD lo c n = (List.range n).map fun i => PyData.int (lo + c * (i : Nat)) := by
  induction n with
  | zero => intros; rfl
  | succ n ih =>
    intro lo c
    rw [List.range_succ_eq_map, List.map_cons, List.map_map, rngD, ih]
    refine congr (congrArg _ (by simp)) (List.map_congr_left fun i _ => ?_)
    simp only [Function.comp, PyData.int.injEq, Int.natCast_succ, Int.mul_add, Int.mul_one]
    omega
theorem rng_map1 {n : Nat} : rngD 0 1 n = (List.range n).map fun i => PyData.int (i : Nat) := by
  rw [rng_map]
  exact List.map_congr_left fun i _ => by simp
def cutG {α : Type} (xs : List α) (lo hi : Option Int) : List α := (xs.drop (HT.sIx xs.length 0 lo)).take (HT.sIx xs.length xs.length hi - HT.sIx xs.length 0 lo)
theorem cut_map {α : Type} {g : α → D} {xs : List α} {lo hi : Option Int} : cutD (xs.map g) lo hi = (cutG xs lo hi).map g := by
  unfold cutD cutG
  rw [List.length_map, List.map_take, List.map_drop]
theorem cutG_len {α : Type} {xs : List α} {lo hi : Option Int} : (cutG xs lo hi).length ≤ xs.length := by
  unfold cutG
  rw [List.length_take, List.length_drop]
  omega
theorem cutG_mem {α : Type} {xs : List α} {lo hi : Option Int} {x : α} (h : x ∈ cutG xs lo hi) : x ∈ xs := List.mem_of_mem_drop (List.mem_of_mem_take h)
def valsD : List D → List Int
  | [] => []
  | .int i :: r => i :: valsD r
  | _ :: r => 0 :: valsD r
def allI : List D → Bool
  | [] => true
  | .int _ :: r => allI r
  | _ :: _ => false
theorem vals_nil : valsD [] = [] := rfl
theorem vals_cons {i : Int} {r : List D} : valsD (.int i :: r) = i :: valsD r := rfl
theorem allI_nil : allI [] = true := rfl
theorem allI_cons {i : Int} {r : List D} : allI (.int i :: r) = allI r := rfl
theorem vals_map : ∀ {xs : List Int}, valsD (xs.map PyData.int) = xs
  | [] => rfl
  | x :: xs => congrArg (x :: ·) (vals_map (xs := xs))
theorem allI_map : ∀ {xs : List Int}, allI (xs.map PyData.int) = true
  | [] => rfl
  | x :: xs => allI_map (xs := xs)
theorem vals_app : ∀ {xs ys : List D}, valsD (xs ++ ys) = valsD xs ++ valsD ys
  | [], _ => rfl
  | d :: xs, ys => by cases d <;> exact congrArg (_ :: ·) (vals_app (xs := xs) (ys := ys))
theorem allI_app : ∀ {xs ys : List D}, allI (xs ++ ys) = (allI xs && allI ys)
  | [], _ => rfl
  | d :: xs, ys => by cases d <;> first | exact allI_app (xs := xs) (ys := ys) | rfl
theorem vals_eq : ∀ {ds : List D}, allI ds = true → ds = (valsD ds).map PyData.int
  | [], _ => rfl
  | d :: ds, h => by cases d <;> first | exact congrArg (_ :: ·) (vals_eq (ds := ds) h) | cases h
theorem ints_map : ∀ {xs : List Int}, intsD (xs.map PyData.int) = some xs
  | [] => rfl
  | x :: xs => by rw [List.map_cons, intsD, ints_map]; rfl
theorem ints_all {ds : List D} (h : allI ds = true) : intsD ds = some (valsD ds) := by
  rw [vals_eq h, ints_map, vals_map]
theorem bi_sum' {ds : List D} (h : allI ds = true) : biD .sum [.list ds] = .ok (.val (.int (valsD ds).sum)) := by rw [bi_sum, ints_all h]; rfl
theorem bools_map : ∀ {xs : List Bool}, boolsD (xs.map PyData.bool) = some xs
  | [] => rfl
  | x :: xs => by rw [List.map_cons, boolsD, bools_map]; rfl
def Go (P : En → Prop) : M Out → Prop
  | .ok (.nx ρ) => P ρ
  | .ok (.ct ρ) => P ρ
  | _ => False
theorem go_nx {P : En → Prop} {ρ : En} : Go P (.ok (.nx ρ)) = P ρ := rfl
theorem go_ct {P : En → Prop} {ρ : En} : Go P (.ok (.ct ρ)) = P ρ := rfl
theorem go_ex {P : En → Prop} {r : M Out} (h : Go P r) : ∃ ρ1, (r = .ok (.nx ρ1) ∨ r = .ok (.ct ρ1)) ∧ P ρ1 := by
  cases r with
  | ok o => cases o with
    | nx ρ => exact ⟨ρ, .inl rfl, h⟩
    | ct ρ => exact ⟨ρ, .inr rfl, h⟩
    | rt b => exact h.elim
  | stuck => exact h.elim
  | ex c => exact h.elim
def Ret (P : B → Prop) (r : M B) : Prop := ∃ b, r = .ok b ∧ P b
theorem ret_ok {P : B → Prop} {b : B} : Ret P (.ok b) = P b := propext ⟨fun ⟨_, e, h⟩ => by cases e; exact h, fun h => ⟨_, rfl, h⟩⟩
theorem for_eq {Φ : Fs} {ss : List S} {r : M B} {f : D → En → M Out} {xs : List D} {ρ : En} (Pv : Nat → En → Prop) (h0 : Pv 0 ρ) (hs : ∀ (i : Nat) (d : D) (ρ : En), xs[i]? = some d → Pv i ρ → Go (Pv (i + 1)) (f d ρ))
    (hd : ∀ ρ1, Pv xs.length ρ1 → endD (exL Φ ss ρ1) = r) : endD (nextD Φ ss (forD f xs ρ)) = r := for_go Pv h0 (fun i d ρ h1 h2 => go_ex (hs i d ρ h1 h2)) hd
theorem for_ret {Φ : Fs} {ss : List S} {P : B → Prop} {f : D → En → M Out} {xs : List D} {ρ : En} (Pv : Nat → En → Prop) (h0 : Pv 0 ρ) (hs : ∀ (i : Nat) (d : D) (ρ : En), xs[i]? = some d → Pv i ρ → Go (Pv (i + 1)) (f d ρ))
    (hd : ∀ ρ1, Pv xs.length ρ1 → Ret P (endD (exL Φ ss ρ1))) : Ret P (endD (nextD Φ ss (forD f xs ρ))) := for_in (C := fun z => Ret P (endD (nextD Φ ss z))) Pv h0 (fun i d ρ h1 h2 => go_ex (hs i d ρ h1 h2)) hd
theorem for_nxt {Φ : Fs} {ss : List S} {P : En → Prop} {f : D → En → M Out} {xs : List D} {ρ : En} (Pv : Nat → En → Prop) (h0 : Pv 0 ρ) (hs : ∀ (i : Nat) (d : D) (ρ : En), xs[i]? = some d → Pv i ρ → Go (Pv (i + 1)) (f d ρ))
    (hd : ∀ ρ1, Pv xs.length ρ1 → Go P (exL Φ ss ρ1)) : Go P (nextD Φ ss (forD f xs ρ)) := for_in (C := fun z => Go P (nextD Φ ss z)) Pv h0 (fun i d ρ h1 h2 => go_ex (hs i d ρ h1 h2)) hd
theorem map_get {α : Type} {g : α → D} {xs : List α} {i : Nat} {d : D} (h : (xs.map g)[i]? = some d) : ∃ x, xs[i]? = some x ∧ d = g x := by
  rw [List.getElem?_map] at h
  cases e : xs[i]? with
  | none => rw [e] at h; cases h
  | some x => rw [e] at h; cases h; exact ⟨x, rfl, rfl⟩
theorem cut_take {α : Type} {xs : List α} {k : Int} (h : 0 ≤ k) : cutG xs none (some k) = xs.take k.toNat := by
  unfold cutG
  simp only [HT.sIx, if_neg (show ¬ k < 0 by omega), List.drop_zero, Nat.sub_zero]
  rw [Nat.min_def]
  split
  · rfl
  · rw [List.take_length, List.take_of_length_le (by omega)]
theorem cut_drop {α : Type} {xs : List α} {k : Int} (h : 0 ≤ k) : cutG xs (some k) none = xs.drop k.toNat := by
  unfold cutG
  simp only [HT.sIx, if_neg (show ¬ k < 0 by omega)]
  rw [List.take_of_length_le (by rw [List.length_drop]; omega), Nat.min_def]
  split
  · rfl
  · rw [List.drop_length, List.drop_of_length_le (by omega)]
theorem take_at {α : Type} {xs : List α} {i : Nat} {x : α} (h : xs[i]? = some x) : xs.take (i + 1) = xs.take i ++ [x] := by
  rw [List.take_succ, h]; rfl
theorem turn_b {c : Bool} {b : B} : turnD [.bool c] (.ok b) = .ok (if c then some b.d else none) := by cases c <;> rfl
theorem lc_filt {f : D → M (Option D)} {p : Int → Bool} : ∀ {xs : List Int}, (∀ x ∈ xs, f (.int x) = .ok (if p x then some (.int x) else none)) → lcD f (xs.map PyData.int) = .ok ((xs.filter p).map PyData.int)
  | [], _ => rfl
  | x :: xs, h => by
    rw [List.map_cons, lc_cons, h x List.mem_cons_self, lc_filt fun y hy => h y (List.mem_cons_of_mem _ hy), List.filter_cons]
    cases p x <;> rfl
theorem euclid {c : En → M D} {f : En → M Out} (R : Nat → Nat → En) (hc0 : ∀ a, c (R a 0) = .ok (.bool false)) (hc : ∀ a b, c (R a (b + 1)) = .ok (.bool true)) (hf : ∀ a b, f (R a (b + 1)) = .ok (.nx (R (b + 1) (a % (b + 1))))) :
    ∀ b a, whlD c f (R a b) = .ok (.nx (R (Nat.gcd a b) 0)) := by
  intro b
  induction b using Nat.strongRecOn with
  | _ b ih =>
    intro a
    cases b with
    | zero => rw [Nat.gcd_zero_right]; exact whlD_false (hc0 a)
    | succ b =>
      refine whlD_true (hc a b) (hf a b) ?_ (fun z => nomatch z)
      rw [ih _ (Nat.mod_lt _ (Nat.succ_pos b)), Nat.gcd_comm a, Nat.gcd_rec (b + 1) a, Nat.gcd_comm]
def gcdL (xs : List Int) : Nat := xs.foldl (fun g x => Nat.gcd g x.natAbs) 0
theorem gcdF_dvd : ∀ {xs : List Int} {g : Nat}, xs.foldl (fun g x => Nat.gcd g x.natAbs) g ∣ g ∧ ∀ x ∈ xs, ((xs.foldl (fun g x => Nat.gcd g x.natAbs) g : Nat) : Int) ∣ x
  | [], g => ⟨Nat.dvd_refl g, fun x hx => by cases hx⟩
  | y :: ys, g => by
    obtain ⟨h1, h2⟩ := gcdF_dvd (xs := ys) (g := Nat.gcd g y.natAbs)
    refine ⟨Nat.dvd_trans h1 (Nat.gcd_dvd_left _ _), fun x hx => ?_⟩
    rcases List.mem_cons.mp hx with rfl | hx
    · exact Int.ofNat_dvd_left.mpr (Nat.dvd_trans h1 (Nat.gcd_dvd_right _ _))
    · exact h2 x hx
theorem dvd_gcdF : ∀ {xs : List Int} {g d : Nat}, d ∣ g → (∀ x ∈ xs, (d : Int) ∣ x) → d ∣ xs.foldl (fun g x => Nat.gcd g x.natAbs) g
  | [], _, _, h, _ => h
  | y :: ys, _, _, h, hx => dvd_gcdF (xs := ys) (Nat.dvd_gcd h (Int.ofNat_dvd_left.mp (hx y List.mem_cons_self))) fun x h => hx x (List.mem_cons_of_mem _ h)
theorem gcdL_dvd {xs : List Int} {x : Int} (h : x ∈ xs) : (gcdL xs : Int) ∣ x := gcdF_dvd.2 x h
theorem dvd_gcdL {xs : List Int} {d : Nat} (h : ∀ x ∈ xs, (d : Int) ∣ x) : d ∣ gcdL xs := dvd_gcdF (Nat.dvd_zero d) h
theorem gcdL_eq {xs : List Int} {d : Nat} (h : ∀ x ∈ xs, (d : Int) ∣ x) (h2 : ∀ e : Nat, (∀ x ∈ xs, (e : Int) ∣ x) → e ∣ d) : gcdL xs = d :=
  Nat.dvd_antisymm (h2 _ fun _ hx => gcdL_dvd hx) (dvd_gcdL h)
theorem gcdL_zero {xs : List Int} (h : gcdL xs = 0) {x : Int} (hx : x ∈ xs) : x = 0 := by
  have := gcdL_dvd hx
  rw [h] at this
  exact Int.zero_dvd.mp this
theorem gcdL_pos {xs : List Int} {x : Int} (hx : x ∈ xs) (h : x ≠ 0) : 0 < gcdL xs := by
  rcases Nat.eq_zero_or_pos (gcdL xs) with e | e
  · exact absurd (gcdL_zero e hx) h
  · exact e
theorem gcdL_scale {xs : List Int} {m : Int} : gcdL (xs.map (m * ·)) = m.natAbs * gcdL xs := by
  have : ∀ (xs : List Int) (g : Nat), (xs.map (m * ·)).foldl (fun g x => Nat.gcd g x.natAbs) (m.natAbs * g) = m.natAbs * xs.foldl (fun g x => Nat.gcd g x.natAbs) g := by
    intro xs
    induction xs with
    | nil => intro g; rfl
    | cons y ys ih => intro g; rw [List.map_cons, List.foldl_cons, List.foldl_cons, Int.natAbs_mul, Nat.gcd_mul_left]; exact ih _
  exact this xs 0
theorem gcdL_bd {xs : List Int} {x : Int} {n : Nat} (hx : x ∈ xs) (h0 : x ≠ 0) (h : x.natAbs < 2 ^ n) : (gcdL xs : Int).natAbs < 2 ^ n := by
  have := Nat.le_of_dvd (by omega) (Int.ofNat_dvd_left.mp (gcdL_dvd hx))
  simp only [Int.natAbs_natCast]
  omega
def near (c m : Int) : Int := if m < c % (2 * m + 1) then c % (2 * m + 1) - (2 * m + 1) else c % (2 * m + 1)
theorem near_le {c m : Int} (h : 0 ≤ m) : (near c m).natAbs ≤ m.natAbs := by
  unfold near
  have h1 := Int.emod_nonneg c (show 2 * m + 1 ≠ 0 by omega)
  have h2 := Int.emod_lt_of_pos c (show 0 < 2 * m + 1 by omega)
  split <;> omega
theorem near_b3 {c : Int} : (near c 3).natAbs < 2 ^ 8 := Nat.lt_of_le_of_lt (near_le (by decide)) (by decide)
theorem near_b6 {c : Int} : (near c 6).natAbs < 2 ^ 8 := Nat.lt_of_le_of_lt (near_le (by decide)) (by decide)
theorem near_b9 {c : Int} : (near c 9).natAbs < 2 ^ 8 := Nat.lt_of_le_of_lt (near_le (by decide)) (by decide)
theorem near_b999 {c : Int} : (near c 999).natAbs < 2 ^ 10 := Nat.lt_of_le_of_lt (near_le (by decide)) (by decide)
theorem near_b1000 {c : Int} : (near c 1000).natAbs < 2 ^ 10 := Nat.lt_of_le_of_lt (near_le (by decide)) (by decide)
theorem near_b12 {c : Int} : (near c (10 ^ 12)).natAbs < 2 ^ 40 := Nat.lt_of_le_of_lt (near_le (by decide)) (by decide)
theorem near_b15 {c : Int} : (near c (10 ^ 15)).natAbs < 2 ^ 50 := Nat.lt_of_le_of_lt (near_le (by decide)) (by decide)
theorem near_b20 {c : Int} : (near c (10 ^ 20)).natAbs < 2 ^ 67 := Nat.lt_of_le_of_lt (near_le (by decide)) (by decide)
theorem near_b30 {c : Int} : (near c (10 ^ 30)).natAbs < 2 ^ 100 := Nat.lt_of_le_of_lt (near_le (by decide)) (by decide)
theorem near_b60 {c : Int} : (near c (10 ^ 60)).natAbs < 2 ^ 200 := Nat.lt_of_le_of_lt (near_le (by decide)) (by decide)
theorem small_i {k : Int} (h0 : -1000000000 ≤ k) (h : k < 1000000000) : smallI k = true := by
  unfold smallI
  rw [Bool.and_eq_true]
  exact ⟨decide_eq_true (by omega), decide_eq_true (by omega)⟩
theorem it_rng3 {i j c : Int} (h1 : -1000000000 ≤ i) (h2 : i < 1000000000) (h3 : -1000000000 ≤ j) (h4 : j < 1000000000) (h5 : 0 < c) (h6 : c < 1000000) :
    itD .rng [.int i, .int j, .int c] = .ok (rngD i c (if i < j then (j - i - 1) / c + 1 else 0).toNat) := by
  have e : Builtin.Range.rangeSize i j c = if i < j then (j - i - 1) / c + 1 else 0 := by
    unfold Builtin.Range.rangeSize
    rw [if_pos h5]
  have b : 0 ≤ (if i < j then (j - i - 1) / c + 1 else 0 : Int) ∧ (if i < j then (j - i - 1) / c + 1 else 0 : Int) ≤ 3000000000 := by
    split
    · have q1 := Int.ediv_nonneg (show 0 ≤ j - i - 1 by omega) (show 0 ≤ c by omega)
      have q2 := Int.ediv_le_self c (show 0 ≤ j - i - 1 by omega)
      omega
    · omega
  have s : Builtin.Range.small i j c = true := by
    unfold Builtin.Range.small
    rw [e, if_pos h5]
    unfold Builtin.Range.rangeFitsLong
    simp only [Bool.and_eq_true, Bool.or_eq_true, decide_eq_true_eq]
    refine ⟨⟨⟨⟨by omega, by omega⟩, by omega⟩, by omega⟩, .inr (by omega)⟩
  simp only [itD, e, s, decide_eq_true h5, decide_eq_true (show c < 2 ^ 29 by omega), Bool.and_self, if_true]
theorem at_mem {α : Type} {g : α → D} {xs : List α} {k : Int} (h1 : -(xs.length : Int) ≤ k) (h2 : k < xs.length) : ∃ x ∈ xs, L2.atI (xs.map g) k = some (g x) := by
  by_cases h0 : 0 ≤ k
  · have hl : k.toNat < xs.length := by omega
    refine ⟨xs[k.toNat], List.getElem_mem hl, ?_⟩
    have q := L2.atI_nat (xs := xs.map g) (j := k.toNat) (v := g xs[k.toNat]) (by rw [List.getElem?_map, List.getElem?_eq_getElem hl]; rfl)
    rwa [show ((k.toNat : Nat) : Int) = k by omega] at q
  · have hl : (k + xs.length).toNat < xs.length := by omega
    refine ⟨xs[(k + xs.length).toNat], List.getElem_mem hl, ?_⟩
    unfold L2.atI L2.ixN
    rw [if_neg h0, List.length_map, if_pos h1]
    show (xs.map g)[(k + xs.length).toNat]? = _
    rw [List.getElem?_map, List.getElem?_eq_getElem hl]
    rfl
theorem at_get {α : Type} {g : α → D} {xs : List α} {k : Nat} {x : α} (h : xs[k]? = some x) : L2.atI (xs.map g) (k : Nat) = some (g x) := L2.atI_nat (by rw [List.getElem?_map, h]; rfl)
def cellI (ns : List Int) (k : Int) : Int := ns.getD k.toNat 0
end Tg
namespace Lb
open PySem Tg
def b_divisor : List S :=
   [.asg (.nm 1) (.con (.int 0)),
    .for (.nm 2) .seq [.var 0] [.asg (.nm 3) (.bi .abs [.var 2]), .whl (.cmp .ne (.var 3) (.con (.int 0))) [.asg (.tp [.nm 1, .nm 3]) (.tup [.var 3, .bop .mod (.var 1) (.var 3)])]],
    .ret (.var 1)]
noncomputable def d_divisor : List D → M B := runF (phi []) 1 4 b_divisor
theorem o_divisor {x0 : D} {r : M B} (h : endD (exL (phi []) b_divisor [some (.val x0), none, none, none]) = r) : d_divisor [x0] = r := run_of rfl rfl h
def b_ldivisor : List S :=
   [.asg (.nm 1) (.con (.int 0)),
    .for (.nm 2) .seq [.var 0] [.asg (.nm 3) (.bi .abs [.var 2]), .whl (.cmp .gt (.var 3) (.con (.int 0))) [.asg (.tp [.nm 1, .nm 3]) (.tup [.var 3, .bop .mod (.var 1) (.var 3)])]],
    .ret (.var 1)]
noncomputable def d_ldivisor : List D → M B := runF (phi []) 1 4 b_ldivisor
theorem o_ldivisor {x0 : D} {r : M B} (h : endD (exL (phi []) b_ldivisor [some (.val x0), none, none, none]) = r) : d_ldivisor [x0] = r := run_of rfl rfl h
def b_euclid : List S :=
   [.asg (.nm 0) (.bi .abs [.var 0]),
    .asg (.nm 1) (.bi .abs [.var 1]),
    .whl (.cmp .gt (.var 1) (.con (.int 0))) [.asg (.tp [.nm 0, .nm 1]) (.tup [.var 1, .bop .mod (.var 0) (.var 1)])],
    .ret (.var 0)]
noncomputable def d_euclid : List D → M B := runF (phi []) 2 2 b_euclid
theorem o_euclid {x0 x1 : D} {r : M B} (h : endD (exL (phi []) b_euclid [some (.val x0), some (.val x1)]) = r) : d_euclid [x0, x1] = r := run_of rfl rfl h
def b_cell : List S :=
   [.ite (.cmp .lt (.var 1) (.bi .len [.var 0])) [.ret (.ix (.var 0) (.var 1))] [],
    .ret (.con (.int 0))]
noncomputable def d_cell : List D → M B := runF (phi []) 2 2 b_cell
theorem o_cell {x0 x1 : D} {r : M B} (h : endD (exL (phi []) b_cell [some (.val x0), some (.val x1)]) = r) : d_cell [x0, x1] = r := run_of rfl rfl h
def b_near : List S :=
   [.asg (.nm 2) (.bop .mod (.var 0) (.bop .add (.bop .mul (.con (.int 2)) (.var 1)) (.con (.int 1)))),
    .ite (.cmp .gt (.var 2) (.var 1)) [.ret (.bop .sub (.var 2) (.bop .add (.bop .mul (.con (.int 2)) (.var 1)) (.con (.int 1))))] [],
    .ret (.var 2)]
noncomputable def d_near : List D → M B := runF (phi []) 2 3 b_near
theorem o_near {x0 x1 : D} {r : M B} (h : endD (exL (phi []) b_near [some (.val x0), some (.val x1), none]) = r) : d_near [x0, x1] = r := run_of rfl rfl h
def b_whole : List S :=
   [.ret (.and (.isi (.var 0) .int) (.not (.isi (.var 0) .bool)))]
noncomputable def d_whole : List D → M B := runF (phi []) 1 1 b_whole
theorem o_whole {x0 : D} {r : M B} (h : endD (exL (phi []) b_whole [some (.val x0)]) = r) : d_whole [x0] = r := run_of rfl rfl h
def b_product : List S :=
   [.asg (.tp [.nm 5, .nm 6, .nm 7, .nm 8]) (.var 0),
    .asg (.tp [.nm 9, .nm 10, .nm 11, .nm 12]) (.var 1),
    .asg (.nm 2) (.bop .sub (.bop .sub (.bop .sub (.bop .mul (.var 5) (.var 9)) (.bop .mul (.var 6) (.var 10))) (.bop .mul (.var 7) (.var 11))) (.bop .mul (.var 8) (.var 12))),
    .asg (.nm 3) (.bop .sub (.bop .add (.bop .add (.bop .mul (.var 5) (.var 10)) (.bop .mul (.var 6) (.var 9))) (.bop .mul (.var 7) (.var 12))) (.bop .mul (.var 8) (.var 11))),
    .asg (.nm 4) (.bop .add (.bop .add (.bop .sub (.bop .mul (.var 5) (.var 11)) (.bop .mul (.var 6) (.var 12))) (.bop .mul (.var 7) (.var 9))) (.bop .mul (.var 8) (.var 10))),
    .ret (.tup [.var 2, .var 3, .var 4, .bop .add (.bop .sub (.bop .add (.bop .mul (.var 5) (.var 12)) (.bop .mul (.var 6) (.var 11))) (.bop .mul (.var 7) (.var 10))) (.bop .mul (.var 8) (.var 9))])]
noncomputable def d_product : List D → M B := runF (phi []) 2 13 b_product
theorem o_product {x0 x1 : D} {r : M B} (h : endD (exL (phi []) b_product [some (.val x0), some (.val x1), none, none, none, none, none, none, none, none, none, none, none]) = r) : d_product [x0, x1] = r := run_of rfl rfl h
def b_lproduct : List S :=
   [.asg (.tp [.nm 5, .nm 6, .nm 7, .nm 8]) (.var 0),
    .asg (.tp [.nm 9, .nm 10, .nm 11, .nm 12]) (.var 1),
    .asg (.nm 2) (.bop .sub (.bop .sub (.bop .sub (.bop .mul (.var 5) (.var 9)) (.bop .mul (.var 6) (.var 10))) (.bop .mul (.var 7) (.var 11))) (.bop .mul (.var 8) (.var 12))),
    .asg (.nm 3) (.bop .sub (.bop .add (.bop .add (.bop .mul (.var 5) (.var 10)) (.bop .mul (.var 6) (.var 9))) (.bop .mul (.var 7) (.var 12))) (.bop .mul (.var 8) (.var 11))),
    .asg (.nm 4) (.bop .add (.bop .add (.bop .sub (.bop .mul (.var 5) (.var 11)) (.bop .mul (.var 6) (.var 12))) (.bop .mul (.var 7) (.var 9))) (.bop .mul (.var 8) (.var 10))),
    .ret (.tup [.var 2, .var 3, .var 4, .bop .add (.bop .sub (.bop .add (.bop .mul (.var 5) (.var 12)) (.bop .mul (.var 6) (.var 11))) (.bop .mul (.var 7) (.var 10))) (.bop .mul (.var 8) (.var 9))])]
noncomputable def d_lproduct : List D → M B := runF (phi []) 2 13 b_lproduct
theorem o_lproduct {x0 x1 : D} {r : M B} (h : endD (exL (phi []) b_lproduct [some (.val x0), some (.val x1), none, none, none, none, none, none, none, none, none, none, none]) = r) : d_lproduct [x0, x1] = r := run_of rfl rfl h
def b_mirrored : List S :=
   [.ret (.tup [.ix (.var 0) (.con (.int 0)), .neg (.ix (.var 0) (.con (.int 1))), .neg (.ix (.var 0) (.con (.int 2))), .neg (.ix (.var 0) (.con (.int 3)))])]
noncomputable def d_mirrored : List D → M B := runF (phi []) 1 1 b_mirrored
theorem o_mirrored {x0 : D} {r : M B} (h : endD (exL (phi []) b_mirrored [some (.val x0)]) = r) : d_mirrored [x0] = r := run_of rfl rfl h
def b_size : List S :=
   [.ret (.bi .sum [.lc (.bop .mul (.var 1) (.var 1)) (.nm 1) .seq [.var 0] [] [1]])]
noncomputable def d_size : List D → M B := runF (phi []) 1 2 b_size
theorem o_size {x0 : D} {r : M B} (h : endD (exL (phi []) b_size [some (.val x0), none]) = r) : d_size [x0] = r := run_of rfl rfl h
def b_qnumber : List S :=
   [.ite (.cmp .eq (.bop .mod (.var 0) (.con (.int 3))) (.con (.int 0))) [.ret (.call 0 [.bop .fdiv (.var 0) (.con (.int 3)), .con (.int 3)])] [],
    .ite (.cmp .eq (.bop .mod (.var 0) (.con (.int 3))) (.con (.int 1))) [.ret (.call 0 [.bop .fdiv (.var 0) (.con (.int 3)), .con (.int 1000)])] [],
    .ret (.call 0 [.bop .fdiv (.var 0) (.con (.int 3)), .bop .pow (.con (.int 10)) (.con (.int 30))])]
noncomputable def d_qnumber : List D → M B := runF (phi [d_near]) 1 1 b_qnumber
theorem o_qnumber {x0 : D} {r : M B} (h : endD (exL (phi [d_near]) b_qnumber [some (.val x0)]) = r) : d_qnumber [x0] = r := run_of rfl rfl h
def b_qquads : List S :=
   [.set 2 (.lst []),
    .for (.nm 3) .rng [.con (.int 0), .bi .min [.bi .len [.var 0], .bop .mul (.con (.int 4)) (.var 1)], .con (.int 4)] [.asg (.nm 4) (.lc (.call 0 [.call 1 [.var 0, .bop .add (.var 3) (.var 5)]]) (.nm 5) .rng [.con (.int 4)] [] [5]), .app 2 (.tup [.ix (.var 4) (.con (.int 0)), .ix (.var 4) (.con (.int 1)), .ix (.var 4) (.con (.int 2)), .ix (.var 4) (.con (.int 3))])],
    .ret (.var 2)]
noncomputable def d_qquads : List D → M B := runF (phi [d_qnumber, d_cell]) 2 6 b_qquads
theorem o_qquads {x0 x1 : D} {r : M B} (h : endD (exL (phi [d_qnumber, d_cell]) b_qquads [some (.val x0), some (.val x1), none, none, none, none]) = r) : d_qquads [x0, x1] = r := run_of rfl rfl h
def b_qsame : List S :=
   [.ite (.or (.not (.isi (.var 0) .tuple)) (.cmp .ne (.bi .len [.var 0]) (.con (.int 4)))) [.ret (.con (.bool false))] [],
    .for (.nm 2) .rng [.con (.int 4)] [.ite (.or (.not (.call 0 [.ix (.var 0) (.var 2)])) (.cmp .ne (.ix (.var 0) (.var 2)) (.ix (.var 1) (.var 2)))) [.ret (.con (.bool false))] []],
    .ret (.con (.bool true))]
noncomputable def d_qsame : List D → M B := runF (phi [d_whole]) 2 3 b_qsame
theorem o_qsame {x0 x1 : D} {r : M B} (h : endD (exL (phi [d_whole]) b_qsame [some (.val x0), some (.val x1), none]) = r) : d_qsame [x0, x1] = r := run_of rfl rfl h
def b_plain : List S :=
   [.asg (.nm 1) (.call 0 [.var 0]),
    .ite (.cmp .eq (.var 1) (.con (.int 0))) [.raise 0] [],
    .asg (.nm 2) (.ix (.lc (.var 3) (.nm 3) .seq [.var 0] [.cmp .ne (.var 3) (.con (.int 0))] [3]) (.con (.int 0))),
    .ite (.cmp .lt (.var 2) (.con (.int 0))) [.asg (.nm 1) (.neg (.var 1))] [],
    .ret (.tup [.bop .fdiv (.ix (.var 0) (.con (.int 0))) (.var 1), .bop .fdiv (.ix (.var 0) (.con (.int 1))) (.var 1), .bop .fdiv (.ix (.var 0) (.con (.int 2))) (.var 1), .bop .fdiv (.ix (.var 0) (.con (.int 3))) (.var 1)])]
noncomputable def d_plain : List D → M B := runF (phi [d_divisor]) 1 4 b_plain
theorem o_plain {x0 : D} {r : M B} (h : endD (exL (phi [d_divisor]) b_plain [some (.val x0), none, none, none]) = r) : d_plain [x0] = r := run_of rfl rfl h
def b_times : List S :=
   [.ret (.bop .add (.bop .add (.bop .mul (.ix (.var 0) (.con (.int 0))) (.ix (.var 1) (.con (.int 0)))) (.bop .mul (.ix (.var 0) (.con (.int 1))) (.ix (.var 1) (.con (.int 1))))) (.bop .mul (.ix (.var 0) (.con (.int 2))) (.ix (.var 1) (.con (.int 2)))))]
noncomputable def d_times : List D → M B := runF (phi []) 2 2 b_times
theorem o_times {x0 x1 : D} {r : M B} (h : endD (exL (phi []) b_times [some (.val x0), some (.val x1)]) = r) : d_times [x0, x1] = r := run_of rfl rfl h
def b_moved : List S :=
   [.asg (.nm 2) (.lc (.call 0 [.var 4, .var 1]) (.nm 4) .seq [.ix (.var 0) (.con (.int 0))] [] [4]),
    .asg (.nm 3) (.call 1 [.bop .add (.var 2) (.lst [.ix (.var 0) (.con (.int 1))])]),
    .ret (.tup [.bop .fdiv (.ix (.var 2) (.con (.int 0))) (.var 3), .bop .fdiv (.ix (.var 2) (.con (.int 1))) (.var 3), .bop .fdiv (.ix (.var 2) (.con (.int 2))) (.var 3), .bop .fdiv (.ix (.var 0) (.con (.int 1))) (.var 3)])]
noncomputable def d_moved : List D → M B := runF (phi [d_times, d_divisor]) 2 5 b_moved
theorem o_moved {x0 x1 : D} {r : M B} (h : endD (exL (phi [d_times, d_divisor]) b_moved [some (.val x0), some (.val x1), none, none, none]) = r) : d_moved [x0, x1] = r := run_of rfl rfl h
def b_lquad : List S :=
   [.set 2 (.lst [.con (.int 0), .con (.int 0), .con (.int 0), .con (.int 0)]),
    .for (.nm 3) .rng [.bi .len [.var 0]] [.put 2 (.bop .mod (.var 3) (.con (.int 4))) (.bop .add (.ix (.var 2) (.bop .mod (.var 3) (.con (.int 4)))) (.call 0 [.ix (.var 0) (.var 3), .var 1]))],
    .ite (.cmp .eq (.var 2) (.lst [.con (.int 0), .con (.int 0), .con (.int 0), .con (.int 0)])) [.put 2 (.con (.int 0)) (.con (.int 1))] [],
    .ret (.tup [.ix (.var 2) (.con (.int 0)), .ix (.var 2) (.con (.int 1)), .ix (.var 2) (.con (.int 2)), .ix (.var 2) (.con (.int 3))])]
noncomputable def d_lquad : List D → M B := runF (phi [d_near]) 2 4 b_lquad
theorem o_lquad {x0 x1 : D} {r : M B} (h : endD (exL (phi [d_near]) b_lquad [some (.val x0), some (.val x1), none, none]) = r) : d_lquad [x0, x1] = r := run_of rfl rfl h
def b_llower : List S :=
   [.asg (.nm 2) (.call 0 [.bop .add (.bop .add (.bop .add (.bi .list [.ix (.var 0) (.con (.int 0))]) (.bi .list [.ix (.var 0) (.con (.int 1))])) (.bi .list [.ix (.var 0) (.con (.int 2))])) (.lst [.var 1])]),
    .ret (.tup [.bi .tuple [.lc (.bi .tuple [.lc (.bop .fdiv (.var 4) (.var 2)) (.nm 4) .seq [.var 3] [] [4]]) (.nm 3) .seq [.var 0] [] [3]], .bop .fdiv (.var 1) (.var 2)])]
noncomputable def d_llower : List D → M B := runF (phi [d_ldivisor]) 2 5 b_llower
theorem o_llower {x0 x1 : D} {r : M B} (h : endD (exL (phi [d_ldivisor]) b_llower [some (.val x0), some (.val x1), none, none, none]) = r) : d_llower [x0, x1] = r := run_of rfl rfl h
def b_ltable : List S :=
   [.asg (.tp [.nm 4, .nm 5, .nm 6, .nm 7]) (.var 0),
    .asg (.nm 1) (.tup [.bop .sub (.bop .sub (.bop .add (.bop .mul (.var 4) (.var 4)) (.bop .mul (.var 5) (.var 5))) (.bop .mul (.var 6) (.var 6))) (.bop .mul (.var 7) (.var 7)), .bop .mul (.con (.int 2)) (.bop .sub (.bop .mul (.var 5) (.var 6)) (.bop .mul (.var 4) (.var 7))), .bop .mul (.con (.int 2)) (.bop .add (.bop .mul (.var 5) (.var 7)) (.bop .mul (.var 4) (.var 6)))]),
    .asg (.nm 2) (.tup [.bop .mul (.con (.int 2)) (.bop .add (.bop .mul (.var 5) (.var 6)) (.bop .mul (.var 4) (.var 7))), .bop .sub (.bop .add (.bop .sub (.bop .mul (.var 4) (.var 4)) (.bop .mul (.var 5) (.var 5))) (.bop .mul (.var 6) (.var 6))) (.bop .mul (.var 7) (.var 7)), .bop .mul (.con (.int 2)) (.bop .sub (.bop .mul (.var 6) (.var 7)) (.bop .mul (.var 4) (.var 5)))]),
    .asg (.nm 3) (.tup [.bop .mul (.con (.int 2)) (.bop .sub (.bop .mul (.var 5) (.var 7)) (.bop .mul (.var 4) (.var 6))), .bop .mul (.con (.int 2)) (.bop .add (.bop .mul (.var 6) (.var 7)) (.bop .mul (.var 4) (.var 5))), .bop .add (.bop .sub (.bop .sub (.bop .mul (.var 4) (.var 4)) (.bop .mul (.var 5) (.var 5))) (.bop .mul (.var 6) (.var 6))) (.bop .mul (.var 7) (.var 7))]),
    .ret (.call 0 [.tup [.var 1, .var 2, .var 3], .bop .add (.bop .add (.bop .add (.bop .mul (.var 4) (.var 4)) (.bop .mul (.var 5) (.var 5))) (.bop .mul (.var 6) (.var 6))) (.bop .mul (.var 7) (.var 7))])]
noncomputable def d_ltable : List D → M B := runF (phi [d_llower]) 1 8 b_ltable
theorem o_ltable {x0 : D} {r : M B} (h : endD (exL (phi [d_llower]) b_ltable [some (.val x0), none, none, none, none, none, none, none]) = r) : d_ltable [x0] = r := run_of rfl rfl h
def b_lowest : List S :=
   [.asg (.nm 2) (.call 0 [.bop .add (.lst [.var 1]) (.lc (.var 3) (.nm 3) .seq [.bop .add (.bop .add (.ix (.var 0) (.con (.int 0))) (.ix (.var 0) (.con (.int 1)))) (.ix (.var 0) (.con (.int 2)))] [] [3])]),
    .ret (.tup [.bi .tuple [.lc (.bi .tuple [.lc (.bop .fdiv (.var 3) (.var 2)) (.nm 3) .seq [.var 4] [] [3]]) (.nm 4) .seq [.var 0] [] [4]], .bop .fdiv (.var 1) (.var 2)])]
noncomputable def d_lowest : List D → M B := runF (phi [d_divisor]) 2 5 b_lowest
theorem o_lowest {x0 x1 : D} {r : M B} (h : endD (exL (phi [d_divisor]) b_lowest [some (.val x0), some (.val x1), none, none, none]) = r) : d_lowest [x0, x1] = r := run_of rfl rfl h
def b_turn_of : List S :=
   [.ite (.cmp .eq (.call 0 [.var 0]) (.con (.int 0))) [.raise 0] [],
    .asg (.tp [.nm 4, .nm 5, .nm 6, .nm 7]) (.var 0),
    .asg (.nm 1) (.tup [.bop .sub (.bop .sub (.bop .add (.bop .mul (.var 4) (.var 4)) (.bop .mul (.var 5) (.var 5))) (.bop .mul (.var 6) (.var 6))) (.bop .mul (.var 7) (.var 7)), .bop .sub (.bop .mul (.bop .mul (.con (.int 2)) (.var 5)) (.var 6)) (.bop .mul (.bop .mul (.con (.int 2)) (.var 4)) (.var 7)), .bop .add (.bop .mul (.bop .mul (.con (.int 2)) (.var 5)) (.var 7)) (.bop .mul (.bop .mul (.con (.int 2)) (.var 4)) (.var 6))]),
    .asg (.nm 2) (.tup [.bop .add (.bop .mul (.bop .mul (.con (.int 2)) (.var 5)) (.var 6)) (.bop .mul (.bop .mul (.con (.int 2)) (.var 4)) (.var 7)), .bop .sub (.bop .add (.bop .sub (.bop .mul (.var 4) (.var 4)) (.bop .mul (.var 5) (.var 5))) (.bop .mul (.var 6) (.var 6))) (.bop .mul (.var 7) (.var 7)), .bop .sub (.bop .mul (.bop .mul (.con (.int 2)) (.var 6)) (.var 7)) (.bop .mul (.bop .mul (.con (.int 2)) (.var 4)) (.var 5))]),
    .asg (.nm 3) (.tup [.bop .sub (.bop .mul (.bop .mul (.con (.int 2)) (.var 5)) (.var 7)) (.bop .mul (.bop .mul (.con (.int 2)) (.var 4)) (.var 6)), .bop .add (.bop .mul (.bop .mul (.con (.int 2)) (.var 6)) (.var 7)) (.bop .mul (.bop .mul (.con (.int 2)) (.var 4)) (.var 5)), .bop .add (.bop .sub (.bop .sub (.bop .mul (.var 4) (.var 4)) (.bop .mul (.var 5) (.var 5))) (.bop .mul (.var 6) (.var 6))) (.bop .mul (.var 7) (.var 7))]),
    .ret (.call 1 [.tup [.var 1, .var 2, .var 3], .call 0 [.var 0]])]
noncomputable def d_turn_of : List D → M B := runF (phi [d_size, d_lowest]) 1 8 b_turn_of
theorem o_turn_of {x0 : D} {r : M B} (h : endD (exL (phi [d_size, d_lowest]) b_turn_of [some (.val x0), none, none, none, none, none, none, none]) = r) : d_turn_of [x0] = r := run_of rfl rfl h
def b_lform : List S :=
   [.ite (.or (.not (.isi (.var 0) .tuple)) (.or (.cmp .ne (.bi .len [.var 0]) (.con (.int 2))) (.or (.not (.isi (.ix (.var 0) (.con (.int 0))) .tuple)) (.cmp .ne (.bi .len [.ix (.var 0) (.con (.int 0))]) (.con (.int 3)))))) [.ret (.con (.bool false))] [],
    .for (.nm 1) .seq [.ix (.var 0) (.con (.int 0))] [.ite (.or (.not (.isi (.var 1) .tuple)) (.or (.cmp .ne (.bi .len [.var 1]) (.con (.int 3))) (.not (.bi .all [.lc (.call 0 [.var 2]) (.nm 2) .seq [.var 1] [] [2]])))) [.ret (.con (.bool false))] []],
    .ret (.call 0 [.ix (.var 0) (.con (.int 1))])]
noncomputable def d_lform : List D → M B := runF (phi [d_whole]) 1 3 b_lform
theorem o_lform {x0 : D} {r : M B} (h : endD (exL (phi [d_whole]) b_lform [some (.val x0), none, none]) = r) : d_lform [x0] = r := run_of rfl rfl h
def b_listurn : List S :=
   [.asg (.tp [.nm 3, .nm 4]) (.var 0),
    .ite (.or (.cmp .lt (.var 4) (.con (.int 1))) (.cmp .ne (.call 0 [.bop .add (.bop .add (.bop .add (.bi .list [.ix (.var 3) (.con (.int 0))]) (.bi .list [.ix (.var 3) (.con (.int 1))])) (.bi .list [.ix (.var 3) (.con (.int 2))])) (.lst [.var 4])]) (.con (.int 1)))) [.ret (.con (.bool false))] [],
    .for (.nm 1) .rng [.con (.int 3)] [.for (.nm 5) .rng [.con (.int 3)] [.asg (.nm 9) (.bi .sum [.lc (.bop .mul (.ix (.ix (.var 3) (.var 1)) (.var 8)) (.ix (.ix (.var 3) (.var 5)) (.var 8))) (.nm 8) .rng [.con (.int 3)] [] [8]]), .ite (.cmp .ne (.var 9) (.bop .mul (.bop .mul (.var 4) (.var 4)) (.bi .int [.cmp .eq (.var 1) (.var 5)]))) [.ret (.con (.bool false))] []]],
    .asg (.tp [.nm 6, .nm 7, .nm 8]) (.var 3),
    .asg (.nm 2) (.bop .mul (.ix (.var 6) (.con (.int 0))) (.bop .sub (.bop .mul (.ix (.var 7) (.con (.int 1))) (.ix (.var 8) (.con (.int 2)))) (.bop .mul (.ix (.var 7) (.con (.int 2))) (.ix (.var 8) (.con (.int 1)))))),
    .asg (.nm 2) (.bop .sub (.var 2) (.bop .mul (.ix (.var 6) (.con (.int 1))) (.bop .sub (.bop .mul (.ix (.var 7) (.con (.int 0))) (.ix (.var 8) (.con (.int 2)))) (.bop .mul (.ix (.var 7) (.con (.int 2))) (.ix (.var 8) (.con (.int 0))))))),
    .asg (.nm 2) (.bop .add (.var 2) (.bop .mul (.ix (.var 6) (.con (.int 2))) (.bop .sub (.bop .mul (.ix (.var 7) (.con (.int 0))) (.ix (.var 8) (.con (.int 1)))) (.bop .mul (.ix (.var 7) (.con (.int 1))) (.ix (.var 8) (.con (.int 0))))))),
    .ret (.cmp .eq (.var 2) (.bop .mul (.bop .mul (.var 4) (.var 4)) (.var 4)))]
noncomputable def d_listurn : List D → M B := runF (phi [d_ldivisor]) 1 10 b_listurn
theorem o_listurn {x0 : D} {r : M B} (h : endD (exL (phi [d_ldivisor]) b_listurn [some (.val x0), none, none, none, none, none, none, none, none, none]) = r) : d_listurn [x0] = r := run_of rfl rfl h
def b_pair : List S :=
   [.asg (.nm 1) (.con (.int 1)),
    .asg (.nm 2) (.con (.int 0)),
    .for (.nm 3) .seq [.var 0] [.asg (.tp [.nm 1, .nm 2]) (.tup [.bop .add (.bop .mul (.var 1) (.bop .sub (.bop .mod (.var 3) (.con (.int 100))) (.con (.int 50)))) (.var 2), .var 1])],
    .ret (.tup [.var 1, .var 2])]
noncomputable def d_pair : List D → M B := runF (phi []) 1 4 b_pair
theorem o_pair {x0 : D} {r : M B} (h : endD (exL (phi []) b_pair [some (.val x0), none, none, none]) = r) : d_pair [x0] = r := run_of rfl rfl h
def b_makings : List S :=
   [.asg (.tp [.nm 2, .nm 3]) (.tup [.con (.int 1), .con (.int 0)]),
    .asg (.tp [.nm 4, .nm 5]) (.tup [.con (.int 0), .con (.int 1)]),
    .whl (.cmp .ne (.var 1) (.con (.int 0))) [.asg (.nm 6) (.bop .fdiv (.var 0) (.var 1)), .asg (.tp [.nm 0, .nm 1]) (.tup [.var 1, .bop .sub (.var 0) (.bop .mul (.var 6) (.var 1))]), .asg (.tp [.nm 2, .nm 4]) (.tup [.var 4, .bop .sub (.var 2) (.bop .mul (.var 6) (.var 4))]), .asg (.tp [.nm 3, .nm 5]) (.tup [.var 5, .bop .sub (.var 3) (.bop .mul (.var 6) (.var 5))])],
    .ite (.cmp .lt (.var 0) (.con (.int 0))) [.ret (.tup [.neg (.var 0), .neg (.var 2), .neg (.var 3)])] [],
    .ret (.tup [.var 0, .var 2, .var 3])]
noncomputable def d_makings : List D → M B := runF (phi []) 2 7 b_makings
theorem o_makings {x0 x1 : D} {r : M B} (h : endD (exL (phi []) b_makings [some (.val x0), some (.val x1), none, none, none, none, none]) = r) : d_makings [x0, x1] = r := run_of rfl rfl h
def b_primes : List S :=
   [.set 1 (.lst []),
    .asg (.nm 2) (.con (.int 2)),
    .whl (.cmp .le (.bop .mul (.var 2) (.var 2)) (.var 0)) [.whl (.cmp .eq (.bop .mod (.var 0) (.var 2)) (.con (.int 0))) [.app 1 (.var 2), .asg (.nm 0) (.bop .fdiv (.var 0) (.var 2))], .asg (.nm 2) (.bop .add (.var 2) (.con (.int 1)))],
    .ite (.cmp .gt (.var 0) (.con (.int 1))) [.app 1 (.var 0)] [],
    .ret (.var 1)]
noncomputable def d_primes : List D → M B := runF (phi []) 1 3 b_primes
theorem o_primes {x0 : D} {r : M B} (h : endD (exL (phi []) b_primes [some (.val x0), none, none]) = r) : d_primes [x0] = r := run_of rfl rfl h
end Lb
namespace Lb
open PySem Tg
local macro_rules | `(tactic| walk_at "bd") => `(tactic| first | assumption | exact near_b3 | exact near_b6 | exact near_b9 | exact near_b999 | exact near_b1000 | exact near_b12 | exact near_b15 | exact near_b20 | exact near_b30 | exact near_b60 | exact bd_lit rfl (by decide) | (refine' bd_add ?h1 ?h2; (case h1 => walk_at "bd"); (case h2 => walk_at "bd")) | (refine' bd_sub ?h1 ?h2; (case h1 => walk_at "bd"); (case h2 => walk_at "bd")) | (refine' bd_mul ?h1 ?h2; (case h1 => walk_at "bd"); (case h2 => walk_at "bd")) | (refine' bd_neg ?_; walk_at "bd"))
local macro_rules | `(tactic| walk_at "ok") => `(tactic| first | assumption | decide | (refine line_lt ?_; (first | omega | (simp only [List.length_map, List.length_append, List.length_cons, List.length_nil, List.length_reverse]; omega))) | (refine' mulOk_of ?h1 ?h2 ?h3; (case h1 => walk_at "bd"); (case h2 => walk_at "bd"); (case h3 => first | decide | omega | (simp only [Nat.max_def]; first | decide | omega))) | (refine divOk_of ?_ ?_ <;> first | assumption | decide +kernel | omega) | omega | (simp -implicitDefEqProofs only [allI_nil, allI_cons, allI_map, allI_app, Bool.and_self, Bool.and_true]; done))
local macro_rules | `(tactic| walk_at "ev") => `(tactic| simp -implicitDefEqProofs (disch := walk_at "ok") only [exL_nil, exL_cons, next_nx, next_rt, next_ct, next_ex, S_asg, S_set, S_put, S_app, S_ite, S_for, S_whl, S_ret, S_cont, S_pass, S_frz, S_raise, put_own, putK_i, app_own, frz_nil, frz_cons, frzK_own, frzK_val, E_var, E_con, E_glob, E_tup, E_lst, E_rep, E_bop, E_neg, E_not, E_and, E_or, E_cmp, E_ix, E_sl, E_bi, E_isi, E_call, E_lc, lcO_ok, L_nil, L_cons, Bs_nil, Bs_cons, bor_var, bor_con, bor_glob, bor_tup, bor_lst, bor_rep, bor_bop, bor_neg, bor_not, bor_and, bor_or, bor_cmp, bor_ix, bor_sl, bor_bi, bor_isi, bor_call, bor_lc, lookE_val, lookB_val, lookB_own, valM_ok, valM_stuck, valM_ex, d_val, d_own, negD_i, notD_b, andD_t, andD_f, orD_t, orD_f, andD_b, orD_b, add_ii, sub_ii, mul_ii', fdiv_ii', mod_ii', pow10_9, pow10_10, pow10_12, pow10_15, pow10_20, pow10_30, pow10_60, pow10_120, add_ll, add_tt, lt_ii, le_ii, gt_ii, ge_ii, eq_ii, ne_ii, isN_d, notN_d, isB_bb, notB_bb, ix_l, ix_t, ixO_some, at_0, at_1, at_2, at_3, iteD_t, iteD_f, iteD_b, ret_var, retV_b, end_rt, end_nx, end_ex, ret_con, ret_glob, ret_tup, ret_lst, ret_rep, ret_bop, ret_neg, ret_not, ret_and, ret_or, ret_cmp, ret_ix, ret_sl, ret_bi, ret_isi, ret_call, ret_lc, isi_ii, isi_ib, isi_it, isi_il, isi_in, isi_bi, isi_bb, isi_tt, isi_tl, isi_ti, isi_tn, isi_ll, isi_lt, bi_abs, bi_len_l, bi_len_t, bi_int_i, bi_int_b, bi_list_l, bi_list_t, bi_tuple_l, bi_tuple_t, bi_sum, bi_all, sumO_some, allO_some, bi_min2, bi_max2, phi_0, phi_1, phi_2, phi_s, bindT_nm, bindT_tp, bindT_tl, bindTs_nil, bindTs_cons, it_seq, it_zip_t, it_zip_l, it_rev, itL, itT, turn_0, turn_t, turn_f, wipe_nil, wipe_cons, forF_eq, whlC_eq, whlF_eq, lcF_eq, bind_ok, bind_stuck, bind_ex, List.set_cons_zero, List.set_cons_succ, List.getElem?_cons_zero, List.getElem?_cons_succ, if_true, if_false, Bool.false_eq_true, reduceIte, part_0, part_1, sl_l, sl_t, nonD, Bool.not_true, Bool.not_false, Bool.and_true, Bool.true_and, Bool.and_false, Bool.false_and, Bool.or_true, Bool.true_or, Bool.or_false, Bool.false_or, Nat.reduceAdd, Int.cast_ofNat_Int, Int.reduceBEq, beq_self_eq_true, Int.reduceToNat, Int.reduceMul, Int.reduceAdd, Int.reduceSub, Int.reduceLT, Int.reduceLE, decide_true, decide_false, Int.reduceFMod, Int.reduceFDiv, Int.reduceNeg, Int.neg_neg, Int.zero_add, Int.add_zero])
theorem nat_ne {b : Nat} : (!((b + 1 : Nat) : Int) == 0) = true := by simp; omega
theorem fmod_nat {a b : Nat} : ((a : Nat) : Int).fmod ((b + 1 : Nat) : Int) = ((a % (b + 1) : Nat) : Int) := by
  rw [fmod_pos (by omega), Int.natCast_emod]
theorem abs_nat {i : Int} : (if i < 0 then -i else i) = (i.natAbs : Int) := by split <;> omega
def Dr (d : D) (g : Nat) (ρ : En) : Prop := ∃ z y, ρ = [some (.val d), some (.val (.int g)), z, y]
theorem run_div0 {d : D} {xs : List Int} (h : seqD d = .ok (xs.map PyData.int)) : d_divisor [d] = .ok (.val (.int (gcdL xs))) := by
  refine o_divisor ?_
  unfold b_divisor
  walk_at "ev"
  rw [h]
  walk_at "ev"
  obtain ⟨ρ1, h1, h2⟩ := for_fold (f := forF (phi []) (.nm 2) [.asg (.nm 3) (.bi .abs [.var 2]), .whl (.cmp .ne (.var 3) (.con (.int 0))) [.asg (.tp [.nm 1, .nm 3]) (.tup [.var 3, .bop .mod (.var 1) (.var 3)])]]) (g := PyData.int) (step := fun g x => Nat.gcd g x.natAbs) (xs := xs) (s := 0) (ρ := [some (.val d), some (.val (.int 0)), none, none]) (Dr d)
    (fun x _ g ρ ⟨z, y, e⟩ => by
      subst e
      refine ⟨[some (.val d), some (.val (.int (Nat.gcd g x.natAbs))), some (.val (.int x)), some (.val (.int 0))], .inl ?_, _, _, rfl⟩
      walk_at "ev"
      rw [abs_nat, euclid (fun a b => [some (.val d), some (.val (.int (a : Nat))), some (.val (.int x)), some (.val (.int (b : Nat)))]) (fun a => by walk_at "ev") (fun a b => by walk_at "ev"; rw [nat_ne]) (fun a b => by (have : ((b + 1 : Nat) : Int) ≠ 0 := (by omega)); walk_at "ev"; rw [fmod_nat])]
      walk_at "ev") ⟨_, _, rfl⟩
  rw [h1]
  obtain ⟨z, y, rfl⟩ := h2
  walk_at "ev"
  rfl
theorem run_divl {ds : List D} (h : allI ds = true) : d_divisor [.list ds] = .ok (.val (.int (gcdL (valsD ds)))) := run_div0 (by rw [itL, ← vals_eq h])
theorem run_divt {ds : List D} (h : allI ds = true) : d_divisor [.tuple ds] = .ok (.val (.int (gcdL (valsD ds)))) := run_div0 (by rw [itT, ← vals_eq h])
theorem nat_gt {b : Nat} : decide ((0 : Int) < ((b + 1 : Nat) : Int)) = true := decide_eq_true (by omega)
theorem run_ldiv0 {d : D} {xs : List Int} (h : seqD d = .ok (xs.map PyData.int)) : d_ldivisor [d] = .ok (.val (.int (gcdL xs))) := by
  refine o_ldivisor ?_
  unfold b_ldivisor
  walk_at "ev"
  rw [h]
  walk_at "ev"
  obtain ⟨ρ1, h1, h2⟩ := for_fold (f := forF (phi []) (.nm 2) [.asg (.nm 3) (.bi .abs [.var 2]), .whl (.cmp .gt (.var 3) (.con (.int 0))) [.asg (.tp [.nm 1, .nm 3]) (.tup [.var 3, .bop .mod (.var 1) (.var 3)])]]) (g := PyData.int) (step := fun g x => Nat.gcd g x.natAbs) (xs := xs) (s := 0) (ρ := [some (.val d), some (.val (.int 0)), none, none]) (Dr d)
    (fun x _ g ρ ⟨z, y, e⟩ => by
      subst e
      refine ⟨[some (.val d), some (.val (.int (Nat.gcd g x.natAbs))), some (.val (.int x)), some (.val (.int 0))], .inl ?_, _, _, rfl⟩
      walk_at "ev"
      rw [abs_nat, euclid (fun a b => [some (.val d), some (.val (.int (a : Nat))), some (.val (.int x)), some (.val (.int (b : Nat)))]) (fun a => by walk_at "ev") (fun a b => by walk_at "ev"; rw [nat_gt]) (fun a b => by (have : ((b + 1 : Nat) : Int) ≠ 0 := (by omega)); walk_at "ev"; rw [fmod_nat])]
      walk_at "ev") ⟨_, _, rfl⟩
  rw [h1]
  obtain ⟨z, y, rfl⟩ := h2
  walk_at "ev"
  rfl
theorem run_ldivl {ds : List D} (h : allI ds = true) : d_ldivisor [.list ds] = .ok (.val (.int (gcdL (valsD ds)))) := run_ldiv0 (by rw [itL, ← vals_eq h])
theorem run_ldivt {ds : List D} (h : allI ds = true) : d_ldivisor [.tuple ds] = .ok (.val (.int (gcdL (valsD ds)))) := run_ldiv0 (by rw [itT, ← vals_eq h])
theorem run_euclid {i j : Int} : d_euclid [.int i, .int j] = .ok (.val (.int (Nat.gcd i.natAbs j.natAbs : Nat))) := by
  refine o_euclid ?_
  unfold b_euclid
  walk_at "ev"
  rw [abs_nat, abs_nat, euclid (fun a b => [some (.val (.int (a : Nat))), some (.val (.int (b : Nat)))]) (fun a => by walk_at "ev") (fun a b => by walk_at "ev"; rw [nat_gt]) (fun a b => by (have : ((b + 1 : Nat) : Int) ≠ 0 := (by omega)); walk_at "ev"; rw [fmod_nat])]
  walk_at "ev"
theorem cell_at {ns : List Int} {k : Int} (h : 0 ≤ k) (h2 : k < ns.length) : ixO (L2.atI (ns.map PyData.int) k) = .ok (.val (.int (cellI ns k))) := by
  have e : k = (k.toNat : Int) := by omega
  have hl : k.toNat < ns.length := by omega
  unfold cellI
  rw [List.getD_eq_getElem?_getD, List.getElem?_eq_getElem hl]
  have q := L2.atI_nat (xs := ns.map PyData.int) (j := k.toNat) (by rw [List.getElem?_map, List.getElem?_eq_getElem hl]; rfl)
  rw [← e] at q
  rw [q]
  rfl
theorem run_cell {ns : List Int} {k : Int} (h : 0 ≤ k) : d_cell [.list (ns.map PyData.int), .int k] = .ok (.val (.int (cellI ns k))) := by
  refine o_cell ?_
  unfold b_cell
  walk_at "ev"
  rw [List.length_map]
  by_cases hk : k < ns.length
  · rw [decide_eq_true hk]
    walk_at "ev"
    rw [cell_at h hk]
    walk_at "ev"
  · rw [decide_eq_false hk]
    walk_at "ev"
    unfold cellI
    rw [List.getD_eq_getElem?_getD, List.getElem?_eq_none (by omega)]
    rfl
theorem run_near {c m : Int} (h : 0 ≤ m) (h1 : m ≤ 10 ^ 120) : d_near [.int c, .int m] = .ok (.val (.int (near c m))) := by
  have hb : m.natAbs < 2 ^ 500 := by omega
  have h2 : 2 * m + 1 ≠ 0 := by omega
  refine o_near ?_
  unfold b_near
  walk_at "ev"
  rw [fmod_pos (by omega)]
  unfold near
  by_cases hc : m < c % (2 * m + 1)
  · rw [if_pos hc, decide_eq_true hc]
    walk_at "ev"
  · rw [if_neg hc, decide_eq_false hc]
    walk_at "ev"
theorem run_whole {n : Int} : d_whole [.int n] = .ok (.val (.bool true)) := by
  refine o_whole ?_
  unfold b_whole
  walk_at "ev"
theorem rng_3 : rngD 0 1 3 = [.int 0, .int 1, .int 2] := rfl
theorem rng_4 : rngD 0 1 4 = [.int 0, .int 1, .int 2, .int 3] := rfl
local macro_rules | `(tactic| walk_at "ev") => `(tactic| simp -implicitDefEqProofs (disch := walk_at "ok") only [exL_nil, exL_cons, next_nx, next_rt, next_ct, next_ex, S_asg, S_set, S_put, S_app, S_ite, S_for, S_whl, S_ret, S_cont, S_pass, S_frz, S_raise, put_own, putK_i, app_own, frz_nil, frz_cons, frzK_own, frzK_val, E_var, E_con, E_glob, E_tup, E_lst, E_rep, E_bop, E_neg, E_not, E_and, E_or, E_cmp, E_ix, E_sl, E_bi, E_isi, E_call, E_lc, lcO_ok, L_nil, L_cons, Bs_nil, Bs_cons, bor_var, bor_con, bor_glob, bor_tup, bor_lst, bor_rep, bor_bop, bor_neg, bor_not, bor_and, bor_or, bor_cmp, bor_ix, bor_sl, bor_bi, bor_isi, bor_call, bor_lc, lookE_val, lookB_val, lookB_own, valM_ok, valM_stuck, valM_ex, d_val, d_own, negD_i, notD_b, andD_t, andD_f, orD_t, orD_f, andD_b, orD_b, add_ii, sub_ii, mul_ii', fdiv_ii', mod_ii', pow10_9, pow10_10, pow10_12, pow10_15, pow10_20, pow10_30, pow10_60, pow10_120, add_ll, add_tt, lt_ii, le_ii, gt_ii, ge_ii, eq_ii, ne_ii, isN_d, notN_d, isB_bb, notB_bb, ix_l, ix_t, ixO_some, at_0, at_1, at_2, at_3, iteD_t, iteD_f, iteD_b, ret_var, retV_b, end_rt, end_nx, end_ex, ret_con, ret_glob, ret_tup, ret_lst, ret_rep, ret_bop, ret_neg, ret_not, ret_and, ret_or, ret_cmp, ret_ix, ret_sl, ret_bi, ret_isi, ret_call, ret_lc, isi_ii, isi_ib, isi_it, isi_il, isi_in, isi_bi, isi_bb, isi_tt, isi_tl, isi_ti, isi_tn, isi_ll, isi_lt, bi_abs, bi_len_l, bi_len_t, bi_int_i, bi_int_b, bi_list_l, bi_list_t, bi_tuple_l, bi_tuple_t, bi_sum, bi_all, sumO_some, allO_some, bi_min2, bi_max2, phi_0, phi_1, phi_2, phi_s, bindT_nm, bindT_tp, bindT_tl, bindTs_nil, bindTs_cons, it_seq, it_zip_t, it_zip_l, it_rev, itL, itT, turn_0, turn_t, turn_f, wipe_nil, wipe_cons, forF_eq, whlC_eq, whlF_eq, lcF_eq, bind_ok, bind_stuck, bind_ex, List.set_cons_zero, List.set_cons_succ, List.getElem?_cons_zero, List.getElem?_cons_succ, if_true, if_false, Bool.false_eq_true, reduceIte, part_0, part_1, sl_l, sl_t, nonD, Bool.not_true, Bool.not_false, Bool.and_true, Bool.true_and, Bool.and_false, Bool.false_and, Bool.or_true, Bool.true_or, Bool.or_false, Bool.false_or, Nat.reduceAdd, Int.cast_ofNat_Int, Int.reduceBEq, beq_self_eq_true, Int.reduceToNat, Int.reduceMul, Int.reduceAdd, Int.reduceSub, Int.reduceLT, Int.reduceLE, decide_true, decide_false, Int.reduceFMod, Int.reduceFDiv, Int.reduceNeg, Int.neg_neg, Int.zero_add, Int.add_zero, line_lt, small_i, it_rng1, it_rng2, eq_self, for_nil, for_cons, forK_nx, forK_ct, forK_rt, lc_nil, lc_cons, lcK_some, lcK_none, rng_3, rng_4, run_whole, run_cell, run_near, vals_nil, vals_cons, vals_map, allI_nil, allI_cons, allI_map, allI_app, vals_app, run_divl, run_divt, run_ldivl, run_ldivt, run_euclid, ints_all, List.length_cons, List.length_nil, List.length_map, List.length_append, List.cons_append, List.nil_append, List.length_set, List.length_reverse])
structure Q where
  a : Int
  b : Int
  c : Int
  d : Int
instance : DecidableEq Q := fun p q => decidable_of_iff (p.a = q.a ∧ p.b = q.b ∧ p.c = q.c ∧ p.d = q.d) (by cases p; cases q; simp)
def q4 (q : Q) : D := .tuple [.int q.a, .int q.b, .int q.c, .int q.d]
def Q.ok (q : Q) (n : Nat) : Prop := q.a.natAbs < 2 ^ n ∧ q.b.natAbs < 2 ^ n ∧ q.c.natAbs < 2 ^ n ∧ q.d.natAbs < 2 ^ n
def Q.mul (p q : Q) : Q := ⟨p.a * q.a - p.b * q.b - p.c * q.c - p.d * q.d, p.a * q.b + p.b * q.a + p.c * q.d - p.d * q.c, p.a * q.c - p.b * q.d + p.c * q.a + p.d * q.b, p.a * q.d + p.b * q.c - p.c * q.b + p.d * q.a⟩
def Q.conj (p : Q) : Q := ⟨p.a, -p.b, -p.c, -p.d⟩
def Q.size (p : Q) : Int := p.a * p.a + p.b * p.b + p.c * p.c + p.d * p.d
def Q.add (p q : Q) : Q := ⟨p.a + q.a, p.b + q.b, p.c + q.c, p.d + q.d⟩
theorem Q.ok_mono {q : Q} {n m : Nat} (h : q.ok n) (hl : n ≤ m) : q.ok m := ⟨bd_mono h.1 hl, bd_mono h.2.1 hl, bd_mono h.2.2.1 hl, bd_mono h.2.2.2 hl⟩
theorem Q.ok_conj {q : Q} {n : Nat} (h : q.ok n) : q.conj.ok n := ⟨h.1, bd_neg h.2.1, bd_neg h.2.2.1, bd_neg h.2.2.2⟩
theorem Q.ok_add {p q : Q} {n : Nat} (h : p.ok n) (k : q.ok n) : (p.add q).ok (n + 1) :=
  ⟨bd_mono (bd_add h.1 k.1) (by omega), bd_mono (bd_add h.2.1 k.2.1) (by omega), bd_mono (bd_add h.2.2.1 k.2.2.1) (by omega), bd_mono (bd_add h.2.2.2 k.2.2.2) (by omega)⟩
theorem Q.ok_mul {p q : Q} {n m : Nat} (h : p.ok n) (k : q.ok m) : (p.mul q).ok (n + m + 3) := by
  obtain ⟨h1, h2, h3, h4⟩ := h
  obtain ⟨k1, k2, k3, k4⟩ := k
  refine ⟨bd_mono (bd_sub (bd_sub (bd_sub (bd_mul h1 k1) (bd_mul h2 k2)) (bd_mul h3 k3)) (bd_mul h4 k4)) ?_, bd_mono (bd_sub (bd_add (bd_add (bd_mul h1 k2) (bd_mul h2 k1)) (bd_mul h3 k4)) (bd_mul h4 k3)) ?_, bd_mono (bd_add (bd_add (bd_sub (bd_mul h1 k3) (bd_mul h2 k4)) (bd_mul h3 k1)) (bd_mul h4 k2)) ?_, bd_mono (bd_add (bd_sub (bd_add (bd_mul h1 k4) (bd_mul h2 k3)) (bd_mul h3 k2)) (bd_mul h4 k1)) ?_⟩ <;> omega
theorem Q.bd_size {p : Q} {n : Nat} (h : p.ok n) : p.size.natAbs < 2 ^ (n + n + 3) := by
  obtain ⟨h1, h2, h3, h4⟩ := h
  exact bd_mono (bd_add (bd_add (bd_add (bd_mul h1 h1) (bd_mul h2 h2)) (bd_mul h3 h3)) (bd_mul h4 h4)) (by omega)
theorem Q.size_mul (p q : Q) : (p.mul q).size = p.size * q.size := by
  simp only [Q.size, Q.mul]; grind
theorem Q.mul_assoc (p q r : Q) : (p.mul q).mul r = p.mul (q.mul r) := by
  simp only [Q.mul, Q.mk.injEq]; grind
theorem Q.conj_mul (p q : Q) : (p.mul q).conj = q.conj.mul p.conj := by
  simp only [Q.mul, Q.conj, Q.mk.injEq]; grind
theorem Q.mul_add (p q r : Q) : p.mul (q.add r) = (p.mul q).add (p.mul r) := by
  simp only [Q.mul, Q.add, Q.mk.injEq]; grind
theorem run_product {p q : Q} {n m : Nat} (h : p.ok n) (k : q.ok m) (hl : n + m ≤ 900000) : d_product [q4 p, q4 q] = .ok (.val (q4 (p.mul q))) := by
  obtain ⟨h1, h2, h3, h4⟩ := h
  obtain ⟨k1, k2, k3, k4⟩ := k
  refine o_product ?_
  unfold b_product q4
  walk_at "ev"
  rfl
theorem run_lproduct {p q : Q} {n m : Nat} (h : p.ok n) (k : q.ok m) (hl : n + m ≤ 900000) : d_lproduct [q4 p, q4 q] = .ok (.val (q4 (p.mul q))) := by
  obtain ⟨h1, h2, h3, h4⟩ := h
  obtain ⟨k1, k2, k3, k4⟩ := k
  refine o_lproduct ?_
  unfold b_lproduct q4
  walk_at "ev"
  rfl
theorem run_mirrored {p : Q} : d_mirrored [q4 p] = .ok (.val (q4 p.conj)) := by
  refine o_mirrored ?_
  unfold b_mirrored q4
  walk_at "ev"
  rfl
theorem run_size {p : Q} {n : Nat} (h : p.ok n) (hl : n ≤ 400000) : d_size [q4 p] = .ok (.val (.int p.size)) := by
  obtain ⟨h1, h2, h3, h4⟩ := h
  refine o_size ?_
  unfold b_size q4
  walk_at "ev"
  simp only [List.sum_cons, List.sum_nil, Int.add_zero, Q.size, Int.add_assoc]
def qnum (c : Int) : Int := if c % 3 = 0 then near (c.fdiv 3) 3 else if c % 3 = 1 then near (c.fdiv 3) 1000 else near (c.fdiv 3) (10 ^ 30)
theorem run_qnumber {c : Int} : d_qnumber [.int c] = .ok (.val (.int (qnum c))) := by
  refine o_qnumber ?_
  unfold b_qnumber qnum
  walk_at "ev"
  rw [fmod_pos (by decide)]
  by_cases h0 : c % 3 = 0
  · rw [if_pos h0, h0]
    walk_at "ev"
  · rw [if_neg h0, show (c % 3 == 0) = false by simpa using h0]
    walk_at "ev"
    rw [fmod_pos (by decide)]
    by_cases h1 : c % 3 = 1
    · rw [if_pos h1, h1]
      walk_at "ev"
    · rw [if_neg h1, show (c % 3 == 1) = false by simpa using h1]
      walk_at "ev"
theorem qnum_bd {c : Int} : (qnum c).natAbs < 2 ^ 100 := by
  unfold qnum
  split
  · exact bd_mono near_b3 (by decide)
  · split
    · exact bd_mono near_b1000 (by decide)
    · exact near_b30
local macro_rules | `(tactic| walk_at "ev") => `(tactic| simp -implicitDefEqProofs (disch := walk_at "ok") only [exL_nil, exL_cons, next_nx, next_rt, next_ct, next_ex, S_asg, S_set, S_put, S_app, S_ite, S_for, S_whl, S_ret, S_cont, S_pass, S_frz, S_raise, put_own, putK_i, app_own, frz_nil, frz_cons, frzK_own, frzK_val, E_var, E_con, E_glob, E_tup, E_lst, E_rep, E_bop, E_neg, E_not, E_and, E_or, E_cmp, E_ix, E_sl, E_bi, E_isi, E_call, E_lc, lcO_ok, L_nil, L_cons, Bs_nil, Bs_cons, bor_var, bor_con, bor_glob, bor_tup, bor_lst, bor_rep, bor_bop, bor_neg, bor_not, bor_and, bor_or, bor_cmp, bor_ix, bor_sl, bor_bi, bor_isi, bor_call, bor_lc, lookE_val, lookB_val, lookB_own, valM_ok, valM_stuck, valM_ex, d_val, d_own, negD_i, notD_b, andD_t, andD_f, orD_t, orD_f, andD_b, orD_b, add_ii, sub_ii, mul_ii', fdiv_ii', mod_ii', pow10_9, pow10_10, pow10_12, pow10_15, pow10_20, pow10_30, pow10_60, pow10_120, add_ll, add_tt, lt_ii, le_ii, gt_ii, ge_ii, eq_ii, ne_ii, isN_d, notN_d, isB_bb, notB_bb, ix_l, ix_t, ixO_some, at_0, at_1, at_2, at_3, iteD_t, iteD_f, iteD_b, ret_var, retV_b, end_rt, end_nx, end_ex, ret_con, ret_glob, ret_tup, ret_lst, ret_rep, ret_bop, ret_neg, ret_not, ret_and, ret_or, ret_cmp, ret_ix, ret_sl, ret_bi, ret_isi, ret_call, ret_lc, isi_ii, isi_ib, isi_it, isi_il, isi_in, isi_bi, isi_bb, isi_tt, isi_tl, isi_ti, isi_tn, isi_ll, isi_lt, bi_abs, bi_len_l, bi_len_t, bi_int_i, bi_int_b, bi_list_l, bi_list_t, bi_tuple_l, bi_tuple_t, bi_sum, bi_all, sumO_some, allO_some, bi_min2, bi_max2, phi_0, phi_1, phi_2, phi_s, bindT_nm, bindT_tp, bindT_tl, bindTs_nil, bindTs_cons, it_seq, it_zip_t, it_zip_l, it_rev, itL, itT, turn_0, turn_t, turn_f, wipe_nil, wipe_cons, forF_eq, whlC_eq, whlF_eq, lcF_eq, bind_ok, bind_stuck, bind_ex, List.set_cons_zero, List.set_cons_succ, List.getElem?_cons_zero, List.getElem?_cons_succ, if_true, if_false, Bool.false_eq_true, reduceIte, part_0, part_1, sl_l, sl_t, nonD, Bool.not_true, Bool.not_false, Bool.and_true, Bool.true_and, Bool.and_false, Bool.false_and, Bool.or_true, Bool.true_or, Bool.or_false, Bool.false_or, Nat.reduceAdd, Int.cast_ofNat_Int, Int.reduceBEq, beq_self_eq_true, Int.reduceToNat, Int.reduceMul, Int.reduceAdd, Int.reduceSub, Int.reduceLT, Int.reduceLE, decide_true, decide_false, Int.reduceFMod, Int.reduceFDiv, Int.reduceNeg, Int.neg_neg, Int.zero_add, Int.add_zero, line_lt, small_i, it_rng1, it_rng2, eq_self, for_nil, for_cons, forK_nx, forK_ct, forK_rt, lc_nil, lc_cons, lcK_some, lcK_none, rng_3, rng_4, run_whole, run_cell, run_near, vals_nil, vals_cons, vals_map, allI_nil, allI_cons, allI_map, allI_app, vals_app, run_divl, run_divt, run_ldivl, run_ldivt, run_euclid, ints_all, List.length_cons, List.length_nil, List.length_map, List.length_append, List.cons_append, List.nil_append, List.length_set, List.length_reverse, go_nx, go_ct, ret_ok, run_mirrored, run_qnumber, app_ok])
theorem run_qquads {ns : List Int} {m : Int} (h : ns.length ≤ 63) (h0 : 0 ≤ m) (h1 : m ≤ 1000) :
    Ret (fun b => ∃ qs : List Q, b = .own (qs.map q4) ∧ (∀ q ∈ qs, q.ok 100) ∧ qs.length ≤ 70) (d_qquads [.list (ns.map PyData.int), .int m]) := by
  have hb : m.natAbs < 2 ^ 20 := by omega
  have key : ∃ n : Nat, itD .rng [.int 0, .int (if 4 * m < ns.length then 4 * m else ns.length), .int 4] = .ok (rngD 0 4 n) ∧ n ≤ 70 := by
    refine ⟨_, it_rng3 (by omega) (by omega) (by split <;> omega) (by split <;> omega) (by omega) (by omega), ?_⟩
    split
    · split <;> omega
    · omega
  obtain ⟨n, e, hn⟩ := key
  rw [o_qquads rfl]
  unfold b_qquads
  walk_at "ev"
  rw [e]
  walk_at "ev"
  refine for_ret (fun i ρ => ∃ (qs : List Q) (a b c : Option B), ρ = [some (.val (.list (ns.map PyData.int))), some (.val (.int m)), some (.own (qs.map q4)), a, b, c] ∧ (∀ q ∈ qs, q.ok 100) ∧ qs.length = i) ⟨[], none, none, none, rfl, (fun q hq => by cases hq), rfl⟩ (fun i d ρ hd ⟨qs, a, b, c, e, hok, hlen⟩ => ?_) (fun ρ1 ⟨qs, a, b, c, e, hok, hlen⟩ => ?_)
  · obtain ⟨hi, rfl⟩ := rngD_get _ _ _ _ _ hd
    subst e
    have p0 : 0 ≤ 0 + (i : Int) * 4 := by omega
    walk_at "ev"
    refine ⟨qs ++ [⟨_, _, _, _⟩], _, _, _, by rw [List.map_append]; rfl, fun q hq => ?_, by rw [List.length_append, hlen]; rfl⟩
    rcases List.mem_append.mp hq with hq | hq
    · exact hok q hq
    · rw [List.mem_singleton.mp hq]
      exact ⟨qnum_bd, qnum_bd, qnum_bd, qnum_bd⟩
  · rw [rngD_len] at hlen
    subst e
    walk_at "ev"
    exact ⟨qs, rfl, hok, by omega⟩
theorem run_qsame {q : Q} : d_qsame [q4 q, q4 q] = .ok (.val (.bool true)) := by
  refine o_qsame ?_
  unfold b_qsame q4
  walk_at "ev"
theorem ix_q0 {q : Q} : ixD (q4 q) (.int 0) = .ok (.val (.int q.a)) := by unfold q4; rw [ix_t, at_0]; rfl
theorem ix_q1 {q : Q} : ixD (q4 q) (.int 1) = .ok (.val (.int q.b)) := by unfold q4; rw [ix_t, at_1]; rfl
theorem ix_q2 {q : Q} : ixD (q4 q) (.int 2) = .ok (.val (.int q.c)) := by unfold q4; rw [ix_t, at_2]; rfl
theorem ix_q3 {q : Q} : ixD (q4 q) (.int 3) = .ok (.val (.int q.d)) := by unfold q4; rw [ix_t, at_3]; rfl
local macro_rules | `(tactic| walk_at "ev") => `(tactic| simp -implicitDefEqProofs (disch := walk_at "ok") only [exL_nil, exL_cons, next_nx, next_rt, next_ct, next_ex, S_asg, S_set, S_put, S_app, S_ite, S_for, S_whl, S_ret, S_cont, S_pass, S_frz, S_raise, put_own, putK_i, app_own, frz_nil, frz_cons, frzK_own, frzK_val, E_var, E_con, E_glob, E_tup, E_lst, E_rep, E_bop, E_neg, E_not, E_and, E_or, E_cmp, E_ix, E_sl, E_bi, E_isi, E_call, E_lc, lcO_ok, L_nil, L_cons, Bs_nil, Bs_cons, bor_var, bor_con, bor_glob, bor_tup, bor_lst, bor_rep, bor_bop, bor_neg, bor_not, bor_and, bor_or, bor_cmp, bor_ix, bor_sl, bor_bi, bor_isi, bor_call, bor_lc, lookE_val, lookB_val, lookB_own, valM_ok, valM_stuck, valM_ex, d_val, d_own, negD_i, notD_b, andD_t, andD_f, orD_t, orD_f, andD_b, orD_b, add_ii, sub_ii, mul_ii', fdiv_ii', mod_ii', pow10_9, pow10_10, pow10_12, pow10_15, pow10_20, pow10_30, pow10_60, pow10_120, add_ll, add_tt, lt_ii, le_ii, gt_ii, ge_ii, eq_ii, ne_ii, isN_d, notN_d, isB_bb, notB_bb, ix_l, ix_t, ixO_some, at_0, at_1, at_2, at_3, iteD_t, iteD_f, iteD_b, ret_var, retV_b, end_rt, end_nx, end_ex, ret_con, ret_glob, ret_tup, ret_lst, ret_rep, ret_bop, ret_neg, ret_not, ret_and, ret_or, ret_cmp, ret_ix, ret_sl, ret_bi, ret_isi, ret_call, ret_lc, isi_ii, isi_ib, isi_it, isi_il, isi_in, isi_bi, isi_bb, isi_tt, isi_tl, isi_ti, isi_tn, isi_ll, isi_lt, bi_abs, bi_len_l, bi_len_t, bi_int_i, bi_int_b, bi_list_l, bi_list_t, bi_tuple_l, bi_tuple_t, bi_sum, bi_all, sumO_some, allO_some, bi_min2, bi_max2, phi_0, phi_1, phi_2, phi_s, bindT_nm, bindT_tp, bindT_tl, bindTs_nil, bindTs_cons, it_seq, it_zip_t, it_zip_l, it_rev, itL, itT, turn_0, turn_t, turn_f, wipe_nil, wipe_cons, forF_eq, whlC_eq, whlF_eq, lcF_eq, bind_ok, bind_stuck, bind_ex, List.set_cons_zero, List.set_cons_succ, List.getElem?_cons_zero, List.getElem?_cons_succ, if_true, if_false, Bool.false_eq_true, reduceIte, part_0, part_1, sl_l, sl_t, nonD, Bool.not_true, Bool.not_false, Bool.and_true, Bool.true_and, Bool.and_false, Bool.false_and, Bool.or_true, Bool.true_or, Bool.or_false, Bool.false_or, Nat.reduceAdd, Int.cast_ofNat_Int, Int.reduceBEq, beq_self_eq_true, Int.reduceToNat, Int.reduceMul, Int.reduceAdd, Int.reduceSub, Int.reduceLT, Int.reduceLE, decide_true, decide_false, Int.reduceFMod, Int.reduceFDiv, Int.reduceNeg, Int.neg_neg, Int.zero_add, Int.add_zero, line_lt, small_i, it_rng1, it_rng2, eq_self, for_nil, for_cons, forK_nx, forK_ct, forK_rt, lc_nil, lc_cons, lcK_some, lcK_none, rng_3, rng_4, run_whole, run_cell, run_near, vals_nil, vals_cons, vals_map, allI_nil, allI_cons, allI_map, allI_app, vals_app, run_divl, run_divt, run_ldivl, run_ldivt, run_euclid, ints_all, List.length_cons, List.length_nil, List.length_map, List.length_append, List.cons_append, List.nil_append, List.length_set, List.length_reverse, go_nx, go_ct, ret_ok, run_mirrored, run_qnumber, app_ok, ix_q0, ix_q1, ix_q2, ix_q3, run_qsame])
def Q.one : Q := ⟨1, 0, 0, 0⟩
theorem Q.one_mul (q : Q) : Q.one.mul q = q := by
  cases q; simp only [Q.mul, Q.one, Q.mk.injEq]; grind
theorem Q.mul_one (q : Q) : q.mul Q.one = q := by
  cases q; simp only [Q.mul, Q.one, Q.mk.injEq]; grind
def Q.prod (qs : List Q) : Q := qs.foldl Q.mul Q.one
theorem Q.foldl_mul (a : Q) (qs : List Q) : qs.foldl Q.mul a = a.mul (Q.prod qs) := by
  unfold Q.prod
  induction qs generalizing a with
  | nil => exact (Q.mul_one a).symm
  | cons q qs ih => rw [List.foldl_cons, List.foldl_cons, ih (a.mul q), ih (Q.one.mul q), Q.one_mul, Q.mul_assoc]
theorem Q.prod_nil : Q.prod [] = Q.one := rfl
theorem Q.prod_cons (q : Q) (qs : List Q) : Q.prod (q :: qs) = q.mul (Q.prod qs) := by
  show List.foldl Q.mul (Q.one.mul q) qs = _
  rw [Q.foldl_mul, Q.one_mul]
theorem Q.prod_app (ps qs : List Q) : Q.prod (ps ++ qs) = (Q.prod ps).mul (Q.prod qs) := by
  unfold Q.prod
  rw [List.foldl_append, Q.foldl_mul]
  rfl
theorem Q.prod_snoc (ps : List Q) (q : Q) : Q.prod (ps ++ [q]) = (Q.prod ps).mul q := by
  rw [Q.prod_app, Q.prod_cons, Q.prod_nil, Q.mul_one]
theorem Q.ok_one : Q.one.ok 1 := ⟨by decide, by decide, by decide, by decide⟩
theorem Q.ok_prod {n : Nat} : ∀ {qs : List Q}, (∀ q ∈ qs, q.ok n) → (Q.prod qs).ok ((n + 3) * qs.length + 1)
  | [], _ => Q.ok_one
  | q :: qs, h => by
    rw [Q.prod_cons]
    refine Q.ok_mono (Q.ok_mul (h q List.mem_cons_self) (Q.ok_prod fun p hp => h p (List.mem_cons_of_mem _ hp))) ?_
    rw [List.length_cons, Nat.mul_add]; omega
theorem rng_0 : rngD 0 1 0 = [] := rfl
theorem rng_1 : rngD 0 1 1 = [.int 0] := rfl
theorem rng_2 : rngD 0 1 2 = [.int 0, .int 1] := rfl
local macro_rules | `(tactic| walk_at "ev") => `(tactic| simp -implicitDefEqProofs (disch := walk_at "ok") only [exL_nil, exL_cons, next_nx, next_rt, next_ct, next_ex, S_asg, S_set, S_put, S_app, S_ite, S_for, S_whl, S_ret, S_cont, S_pass, S_frz, S_raise, put_own, putK_i, app_own, frz_nil, frz_cons, frzK_own, frzK_val, E_var, E_con, E_glob, E_tup, E_lst, E_rep, E_bop, E_neg, E_not, E_and, E_or, E_cmp, E_ix, E_sl, E_bi, E_isi, E_call, E_lc, lcO_ok, L_nil, L_cons, Bs_nil, Bs_cons, bor_var, bor_con, bor_glob, bor_tup, bor_lst, bor_rep, bor_bop, bor_neg, bor_not, bor_and, bor_or, bor_cmp, bor_ix, bor_sl, bor_bi, bor_isi, bor_call, bor_lc, lookE_val, lookB_val, lookB_own, valM_ok, valM_stuck, valM_ex, d_val, d_own, negD_i, notD_b, andD_t, andD_f, orD_t, orD_f, andD_b, orD_b, add_ii, sub_ii, mul_ii', fdiv_ii', mod_ii', pow10_9, pow10_10, pow10_12, pow10_15, pow10_20, pow10_30, pow10_60, pow10_120, add_ll, add_tt, lt_ii, le_ii, gt_ii, ge_ii, eq_ii, ne_ii, isN_d, notN_d, isB_bb, notB_bb, ix_l, ix_t, ixO_some, at_0, at_1, at_2, at_3, iteD_t, iteD_f, iteD_b, ret_var, retV_b, end_rt, end_nx, end_ex, ret_con, ret_glob, ret_tup, ret_lst, ret_rep, ret_bop, ret_neg, ret_not, ret_and, ret_or, ret_cmp, ret_ix, ret_sl, ret_bi, ret_isi, ret_call, ret_lc, isi_ii, isi_ib, isi_it, isi_il, isi_in, isi_bi, isi_bb, isi_tt, isi_tl, isi_ti, isi_tn, isi_ll, isi_lt, bi_abs, bi_len_l, bi_len_t, bi_int_i, bi_int_b, bi_list_l, bi_list_t, bi_tuple_l, bi_tuple_t, bi_sum, bi_all, sumO_some, allO_some, bi_min2, bi_max2, phi_0, phi_1, phi_2, phi_s, bindT_nm, bindT_tp, bindT_tl, bindTs_nil, bindTs_cons, it_seq, it_zip_t, it_zip_l, it_rev, itL, itT, turn_0, turn_t, turn_f, wipe_nil, wipe_cons, forF_eq, whlC_eq, whlF_eq, lcF_eq, bind_ok, bind_stuck, bind_ex, List.set_cons_zero, List.set_cons_succ, List.getElem?_cons_zero, List.getElem?_cons_succ, if_true, if_false, Bool.false_eq_true, reduceIte, part_0, part_1, sl_l, sl_t, nonD, Bool.not_true, Bool.not_false, Bool.and_true, Bool.true_and, Bool.and_false, Bool.false_and, Bool.or_true, Bool.true_or, Bool.or_false, Bool.false_or, Nat.reduceAdd, Int.cast_ofNat_Int, Int.reduceBEq, beq_self_eq_true, Int.reduceToNat, Int.reduceMul, Int.reduceAdd, Int.reduceSub, Int.reduceLT, Int.reduceLE, decide_true, decide_false, Int.reduceFMod, Int.reduceFDiv, Int.reduceNeg, Int.neg_neg, Int.zero_add, Int.add_zero, line_lt, small_i, it_rng1, it_rng2, eq_self, for_nil, for_cons, forK_nx, forK_ct, forK_rt, lc_nil, lc_cons, lcK_some, lcK_none, rng_3, rng_4, run_whole, run_cell, run_near, vals_nil, vals_cons, vals_map, allI_nil, allI_cons, allI_map, allI_app, vals_app, run_divl, run_divt, run_ldivl, run_ldivt, run_euclid, ints_all, List.length_cons, List.length_nil, List.length_map, List.length_append, List.cons_append, List.nil_append, List.length_set, List.length_reverse, go_nx, go_ct, ret_ok, run_mirrored, run_qnumber, app_ok, ix_q0, ix_q1, ix_q2, ix_q3, run_qsame, rng_0, rng_1, rng_2, turn_b])
def Q.vs (q : Q) : List Int := [q.a, q.b, q.c, q.d]
theorem Q.q4_vs (q : Q) : q4 q = .tuple (q.vs.map PyData.int) := rfl
theorem Q.vs_len (q : Q) : q.vs.length = 4 := rfl
local macro_rules | `(tactic| walk_at "ev") => `(tactic| simp -implicitDefEqProofs (disch := walk_at "ok") only [exL_nil, exL_cons, next_nx, next_rt, next_ct, next_ex, S_asg, S_set, S_put, S_app, S_ite, S_for, S_whl, S_ret, S_cont, S_pass, S_frz, S_raise, put_own, putK_i, app_own, frz_nil, frz_cons, frzK_own, frzK_val, E_var, E_con, E_glob, E_tup, E_lst, E_rep, E_bop, E_neg, E_not, E_and, E_or, E_cmp, E_ix, E_sl, E_bi, E_isi, E_call, E_lc, lcO_ok, L_nil, L_cons, Bs_nil, Bs_cons, bor_var, bor_con, bor_glob, bor_tup, bor_lst, bor_rep, bor_bop, bor_neg, bor_not, bor_and, bor_or, bor_cmp, bor_ix, bor_sl, bor_bi, bor_isi, bor_call, bor_lc, lookE_val, lookB_val, lookB_own, valM_ok, valM_stuck, valM_ex, d_val, d_own, negD_i, notD_b, andD_t, andD_f, orD_t, orD_f, andD_b, orD_b, add_ii, sub_ii, mul_ii', fdiv_ii', mod_ii', pow10_9, pow10_10, pow10_12, pow10_15, pow10_20, pow10_30, pow10_60, pow10_120, add_ll, add_tt, lt_ii, le_ii, gt_ii, ge_ii, eq_ii, ne_ii, isN_d, notN_d, isB_bb, notB_bb, ix_l, ix_t, ixO_some, at_0, at_1, at_2, at_3, iteD_t, iteD_f, iteD_b, ret_var, retV_b, end_rt, end_nx, end_ex, ret_con, ret_glob, ret_tup, ret_lst, ret_rep, ret_bop, ret_neg, ret_not, ret_and, ret_or, ret_cmp, ret_ix, ret_sl, ret_bi, ret_isi, ret_call, ret_lc, isi_ii, isi_ib, isi_it, isi_il, isi_in, isi_bi, isi_bb, isi_tt, isi_tl, isi_ti, isi_tn, isi_ll, isi_lt, bi_abs, bi_len_l, bi_len_t, bi_int_i, bi_int_b, bi_list_l, bi_list_t, bi_tuple_l, bi_tuple_t, bi_sum, bi_all, sumO_some, allO_some, bi_min2, bi_max2, phi_0, phi_1, phi_2, phi_s, bindT_nm, bindT_tp, bindT_tl, bindTs_nil, bindTs_cons, it_seq, it_zip_t, it_zip_l, it_rev, itL, itT, turn_0, turn_t, turn_f, wipe_nil, wipe_cons, forF_eq, whlC_eq, whlF_eq, lcF_eq, bind_ok, bind_stuck, bind_ex, List.set_cons_zero, List.set_cons_succ, List.getElem?_cons_zero, List.getElem?_cons_succ, if_true, if_false, Bool.false_eq_true, reduceIte, part_0, part_1, sl_l, sl_t, nonD, Bool.not_true, Bool.not_false, Bool.and_true, Bool.true_and, Bool.and_false, Bool.false_and, Bool.or_true, Bool.true_or, Bool.or_false, Bool.false_or, Nat.reduceAdd, Int.cast_ofNat_Int, Int.reduceBEq, beq_self_eq_true, Int.reduceToNat, Int.reduceMul, Int.reduceAdd, Int.reduceSub, Int.reduceLT, Int.reduceLE, decide_true, decide_false, Int.reduceFMod, Int.reduceFDiv, Int.reduceNeg, Int.neg_neg, Int.zero_add, Int.add_zero, line_lt, small_i, it_rng1, it_rng2, eq_self, for_nil, for_cons, forK_nx, forK_ct, forK_rt, lc_nil, lc_cons, lcK_some, lcK_none, rng_3, rng_4, run_whole, run_cell, run_near, vals_nil, vals_cons, vals_map, allI_nil, allI_cons, allI_map, allI_app, vals_app, run_divl, run_divt, run_ldivl, run_ldivt, run_euclid, ints_all, List.length_cons, List.length_nil, List.length_map, List.length_append, List.cons_append, List.nil_append, List.length_set, List.length_reverse, go_nx, go_ct, ret_ok, run_mirrored, run_qnumber, app_ok, ix_q0, ix_q1, ix_q2, ix_q3, run_qsame, rng_0, rng_1, rng_2, turn_b, Q.vs_len])
def Q.g (q : Q) : Nat := gcdL q.vs
def Q.lead (q : Q) : Int := if q.a = 0 then if q.b = 0 then if q.c = 0 then q.d else q.c else q.b else q.a
def Q.zero : Q := ⟨0, 0, 0, 0⟩
def Q.sc (s : Int) (q : Q) : Q := ⟨s * q.a, s * q.b, s * q.c, s * q.d⟩
theorem Q.lead_ne {q : Q} (h : q ≠ Q.zero) : q.lead ≠ 0 := by
  unfold Q.lead
  intro e
  apply h
  cases q with
  | mk a b c d =>
    simp only at e
    split at e <;> (try split at e) <;> (try split at e) <;> simp_all [Q.zero]
theorem Q.lead_mem (q : Q) : q.lead ∈ q.vs := by
  unfold Q.lead Q.vs
  split <;> (try split) <;> (try split) <;> simp
theorem Q.lead_sc {s : Int} (hs : s ≠ 0) (q : Q) : (Q.sc s q).lead = s * q.lead := by
  unfold Q.lead Q.sc
  simp only [Int.mul_eq_zero, hs, false_or]
  split <;> (try split) <;> (try split) <;> rfl
theorem Q.g_pos {q : Q} (h : q ≠ Q.zero) : 0 < q.g := gcdL_pos (Q.lead_mem q) (Q.lead_ne h)
theorem Q.g_sc (s : Int) (q : Q) : (Q.sc s q).g = s.natAbs * q.g := gcdL_scale (xs := q.vs) (m := s)
theorem Q.sc_inj {s : Int} (hs : s ≠ 0) {p q : Q} (h : Q.sc s p = Q.sc s q) : p = q := by
  cases p; cases q
  simp only [Q.sc, Q.mk.injEq] at h
  obtain ⟨h1, h2, h3, h4⟩ := h
  rw [Int.mul_eq_mul_left_iff hs] at h1 h2 h3 h4
  rw [h1, h2, h3, h4]
theorem Q.sc_sc (s t : Int) (q : Q) : Q.sc s (Q.sc t q) = Q.sc (s * t) q := by simp only [Q.sc, Int.mul_assoc]
structure Pl (q p : Q) (s : Int) : Prop where
  e : q = Q.sc s p
  s : s ≠ 0
  g : p.g = 1
  l : 0 < p.lead
theorem Pl.uniq {q p p' : Q} {s s' : Int} (h : Pl q p s) (h' : Pl q p' s') : p = p' ∧ s = s' := by
  have e1 := Q.g_sc s p
  have e2 := Q.g_sc s' p'
  rw [← h.e, h.g] at e1
  rw [← h'.e, h'.g] at e2
  have l1 := Q.lead_sc h.s p
  have l2 := Q.lead_sc h'.s p'
  rw [← h.e] at l1
  rw [← h'.e] at l2
  have es : s = s' := by
    have en : s.natAbs = s'.natAbs := by omega
    rcases Int.natAbs_eq_natAbs_iff.mp en with e | e
    · exact e
    · exfalso
      have p1 := h.l
      have p2 := h'.l
      rw [l1] at l2
      rcases Int.lt_or_gt_of_ne h.s with hs | hs
      · have := Int.mul_neg_of_neg_of_pos hs p1
        have := Int.mul_pos (show 0 < s' by omega) p2
        omega
      · have := Int.mul_pos hs p1
        have := Int.mul_neg_of_neg_of_pos (show s' < 0 by omega) p2
        omega
  subst es
  exact ⟨Q.sc_inj h.s (h.e.symm.trans h'.e), rfl⟩
theorem Pl.many {q p : Q} {s m : Int} (h : Pl q p s) (hm : m ≠ 0) : Pl (Q.sc m q) p (m * s) := ⟨by rw [h.e, Q.sc_sc], Int.mul_ne_zero hm h.s, h.g, h.l⟩
theorem Pl.mk' {q : Q} (h : q ≠ Q.zero) : ∃ p, Pl q p (if q.lead < 0 then -(q.g : Int) else q.g) := by
  have hg := Q.g_pos h
  have hd : ∀ x ∈ q.vs, (q.g : Int) ∣ x := fun x hx => gcdL_dvd hx
  have hs : (if q.lead < 0 then -(q.g : Int) else q.g) ≠ 0 := by split <;> omega
  have hd2 : ∀ x ∈ q.vs, ∃ k, x = (if q.lead < 0 then -(q.g : Int) else q.g) * k := fun x hx => by
    obtain ⟨k, hk⟩ := hd x hx
    split
    · exact ⟨-k, by rw [hk, Int.neg_mul_neg]⟩
    · exact ⟨k, hk⟩
  have hn : (if q.lead < 0 then -(q.g : Int) else q.g).natAbs = q.g := by split <;> omega
  have hl : 0 < (if q.lead < 0 then -(q.g : Int) else q.g) * q.lead := by
    have := Q.lead_ne h
    split
    · exact Int.mul_pos_of_neg_of_neg (by omega) (by omega)
    · exact Int.mul_pos (by omega) (by omega)
  generalize (if q.lead < 0 then -(q.g : Int) else q.g) = s at *
  obtain ⟨a, ha⟩ := hd2 q.a (by simp [Q.vs])
  obtain ⟨b, hb⟩ := hd2 q.b (by simp [Q.vs])
  obtain ⟨c, hc⟩ := hd2 q.c (by simp [Q.vs])
  obtain ⟨d, hdd⟩ := hd2 q.d (by simp [Q.vs])
  have e : q = Q.sc s ⟨a, b, c, d⟩ := by
    cases q; simp only [Q.sc, Q.mk.injEq]; exact ⟨ha, hb, hc, hdd⟩
  refine ⟨⟨a, b, c, d⟩, e, hs, ?_, ?_⟩
  · have := Q.g_sc s ⟨a, b, c, d⟩
    rw [← e, hn] at this
    rcases Nat.eq_zero_or_pos (Q.g ⟨a, b, c, d⟩) with z | z
    · rw [z] at this; omega
    · exact (Nat.mul_left_cancel hg (by rw [Nat.mul_one]; exact this)).symm
  · have := Q.lead_sc hs ⟨a, b, c, d⟩
    rw [← e] at this
    rw [this, ← Int.mul_assoc] at hl
    have sq : 0 < s * s := by
      rcases Int.lt_or_gt_of_ne hs with hs | hs
      · exact Int.mul_pos_of_neg_of_neg hs hs
      · exact Int.mul_pos hs hs
    rcases Int.lt_trichotomy 0 (Q.lead ⟨a, b, c, d⟩) with h1 | h1 | h1
    · exact h1
    · rw [← h1, Int.mul_zero] at hl; omega
    · have := Int.mul_neg_of_pos_of_neg sq h1; omega
theorem Pl.ok {q p : Q} {s : Int} {n : Nat} (h : Pl q p s) (k : q.ok n) : p.ok n := by
  have key : ∀ x : Int, (s * x).natAbs < 2 ^ n → x.natAbs < 2 ^ n := fun x hx => by
    rw [Int.natAbs_mul] at hx
    have h1 : 0 < s.natAbs := by have := h.s; omega
    have := Nat.le_mul_of_pos_left x.natAbs h1
    omega
  obtain ⟨k1, k2, k3, k4⟩ := k
  rw [h.e] at k1 k2 k3 k4
  exact ⟨key _ k1, key _ k2, key _ k3, key _ k4⟩
theorem Q.g_bd {q : Q} {n : Nat} (h : q ≠ Q.zero) (k : q.ok n) : (q.g : Int).natAbs < 2 ^ n := by
  refine gcdL_bd (Q.lead_mem q) (Q.lead_ne h) ?_
  have := Q.lead_mem q
  simp only [Q.vs, List.mem_cons, List.not_mem_nil, or_false] at this
  obtain ⟨k1, k2, k3, k4⟩ := k
  rcases this with e | e | e | e <;> rw [e] <;> assumption
theorem fdiv_sc {s x : Int} (h : s ≠ 0) : (s * x).fdiv s = x := by rw [Int.mul_comm]; exact Int.mul_fdiv_cancel x h
theorem filt_lead {q : Q} (h : q ≠ Q.zero) : ∃ r, q.vs.filter (fun x => !(x == 0)) = q.lead :: r := by
  have hl := Q.lead_ne h
  unfold Q.lead at hl ⊢
  unfold Q.vs
  simp only [List.filter_cons, List.filter_nil]
  by_cases ha : q.a = 0
  · simp only [ha, if_true] at hl ⊢
    by_cases hb : q.b = 0
    · simp only [hb, if_true] at hl ⊢
      by_cases hc : q.c = 0
      · simp only [hc, if_true] at hl ⊢
        exact ⟨[], by simp [hl]⟩
      · simp only [hc, if_false] at hl ⊢
        exact ⟨_, by simp [hc]; rfl⟩
    · simp only [hb, if_false] at hl ⊢
      exact ⟨_, by simp [hb]; rfl⟩
  · simp only [ha, if_false] at hl ⊢
    exact ⟨_, by simp [ha]; rfl⟩
theorem run_plain {q : Q} {n : Nat} (h : q ≠ Q.zero) (k : q.ok n) (hn : n ≤ 8999) : ∃ p s, d_plain [q4 q] = .ok (.val (q4 p)) ∧ Pl q p s := by
  obtain ⟨p, hp⟩ := Pl.mk' h
  refine ⟨p, _, ?_, hp⟩
  have hg := Q.g_pos h
  have hb := Nat.lt_of_lt_of_le (Q.g_bd h k) (Nat.pow_le_pow_right (by decide) (show n ≤ 9000 by omega))
  have f1 : d_divisor [q4 q] = .ok (.val (.int (q.g : Int))) := by
    rw [Q.q4_vs]
    exact run_div0 itT
  have f2 : seqD (q4 q) = .ok (q.vs.map PyData.int) := itT
  obtain ⟨r, hr⟩ := filt_lead h
  have f3 : ((q.g : Int) == 0) = false := by simp; omega
  refine o_plain ?_
  unfold b_plain
  repeat (first | walk_at "ev" | rw [f1] | rw [f3])
  rw [f2]
  walk_at "ev"
  rw [lc_filt (p := fun x => !(x == 0)) (fun x hx => by walk_at "ev"), hr]
  rw [List.map_cons]
  walk_at "ev"
  have e := hp.e
  have hs := hp.s
  have hsb : (if q.lead < 0 then -(q.g : Int) else q.g).natAbs < 2 ^ 9000 := by split <;> omega
  by_cases hc : q.lead < 0
  · rw [if_pos hc] at e hs hsb
    rw [decide_eq_true hc]
    walk_at "ev"
    have ea : q.a = _ * p.a := congrArg Q.a e
    have eb : q.b = _ * p.b := congrArg Q.b e
    have ec : q.c = _ * p.c := congrArg Q.c e
    have ed : q.d = _ * p.d := congrArg Q.d e
    rw [ea, eb, ec, ed, fdiv_sc hs, fdiv_sc hs, fdiv_sc hs, fdiv_sc hs]
    rfl
  · rw [if_neg hc] at e hs hsb
    rw [decide_eq_false hc]
    walk_at "ev"
    have ea : q.a = _ * p.a := congrArg Q.a e
    have eb : q.b = _ * p.b := congrArg Q.b e
    have ec : q.c = _ * p.c := congrArg Q.c e
    have ed : q.d = _ * p.d := congrArg Q.d e
    rw [ea, eb, ec, ed, fdiv_sc hs, fdiv_sc hs, fdiv_sc hs, fdiv_sc hs]
    rfl
theorem isi_q {q : Q} : isiD .tuple (q4 q) = .ok (.val (.bool true)) := rfl
theorem len_q {q : Q} : biD .len [q4 q] = .ok (.val (.int 4)) := rfl
theorem seq_q {q : Q} : seqD (q4 q) = .ok (q.vs.map PyData.int) := rfl
local macro_rules | `(tactic| walk_at "ev") => `(tactic| simp -implicitDefEqProofs (disch := walk_at "ok") only [exL_nil, exL_cons, next_nx, next_rt, next_ct, next_ex, S_asg, S_set, S_put, S_app, S_ite, S_for, S_whl, S_ret, S_cont, S_pass, S_frz, S_raise, put_own, putK_i, app_own, frz_nil, frz_cons, frzK_own, frzK_val, E_var, E_con, E_glob, E_tup, E_lst, E_rep, E_bop, E_neg, E_not, E_and, E_or, E_cmp, E_ix, E_sl, E_bi, E_isi, E_call, E_lc, lcO_ok, L_nil, L_cons, Bs_nil, Bs_cons, bor_var, bor_con, bor_glob, bor_tup, bor_lst, bor_rep, bor_bop, bor_neg, bor_not, bor_and, bor_or, bor_cmp, bor_ix, bor_sl, bor_bi, bor_isi, bor_call, bor_lc, lookE_val, lookB_val, lookB_own, valM_ok, valM_stuck, valM_ex, d_val, d_own, negD_i, notD_b, andD_t, andD_f, orD_t, orD_f, andD_b, orD_b, add_ii, sub_ii, mul_ii', fdiv_ii', mod_ii', pow10_9, pow10_10, pow10_12, pow10_15, pow10_20, pow10_30, pow10_60, pow10_120, add_ll, add_tt, lt_ii, le_ii, gt_ii, ge_ii, eq_ii, ne_ii, isN_d, notN_d, isB_bb, notB_bb, ix_l, ix_t, ixO_some, at_0, at_1, at_2, at_3, iteD_t, iteD_f, iteD_b, ret_var, retV_b, end_rt, end_nx, end_ex, ret_con, ret_glob, ret_tup, ret_lst, ret_rep, ret_bop, ret_neg, ret_not, ret_and, ret_or, ret_cmp, ret_ix, ret_sl, ret_bi, ret_isi, ret_call, ret_lc, isi_ii, isi_ib, isi_it, isi_il, isi_in, isi_bi, isi_bb, isi_tt, isi_tl, isi_ti, isi_tn, isi_ll, isi_lt, bi_abs, bi_len_l, bi_len_t, bi_int_i, bi_int_b, bi_list_l, bi_list_t, bi_tuple_l, bi_tuple_t, bi_sum, bi_all, sumO_some, allO_some, bi_min2, bi_max2, phi_0, phi_1, phi_2, phi_s, bindT_nm, bindT_tp, bindT_tl, bindTs_nil, bindTs_cons, it_seq, it_zip_t, it_zip_l, it_rev, itL, itT, turn_0, turn_t, turn_f, wipe_nil, wipe_cons, forF_eq, whlC_eq, whlF_eq, lcF_eq, bind_ok, bind_stuck, bind_ex, List.set_cons_zero, List.set_cons_succ, List.getElem?_cons_zero, List.getElem?_cons_succ, if_true, if_false, Bool.false_eq_true, reduceIte, part_0, part_1, sl_l, sl_t, nonD, Bool.not_true, Bool.not_false, Bool.and_true, Bool.true_and, Bool.and_false, Bool.false_and, Bool.or_true, Bool.true_or, Bool.or_false, Bool.false_or, Nat.reduceAdd, Int.cast_ofNat_Int, Int.reduceBEq, beq_self_eq_true, Int.reduceToNat, Int.reduceMul, Int.reduceAdd, Int.reduceSub, Int.reduceLT, Int.reduceLE, decide_true, decide_false, Int.reduceFMod, Int.reduceFDiv, Int.reduceNeg, Int.neg_neg, Int.zero_add, Int.add_zero, line_lt, small_i, it_rng1, it_rng2, eq_self, for_nil, for_cons, forK_nx, forK_ct, forK_rt, lc_nil, lc_cons, lcK_some, lcK_none, rng_3, rng_4, run_whole, run_cell, run_near, vals_nil, vals_cons, vals_map, allI_nil, allI_cons, allI_map, allI_app, vals_app, run_divl, run_divt, run_ldivl, run_ldivt, run_euclid, ints_all, List.length_cons, List.length_nil, List.length_map, List.length_append, List.cons_append, List.nil_append, List.length_set, List.length_reverse, go_nx, go_ct, ret_ok, run_mirrored, run_qnumber, app_ok, ix_q0, ix_q1, ix_q2, ix_q3, run_qsame, rng_0, rng_1, rng_2, turn_b, Q.vs_len, isi_q, len_q, seq_q])
def leadF (xs : List Int) : Int := xs.foldl (fun l x => if l = 0 then x else l) 0
theorem leadF_snoc (xs : List Int) (x : Int) : leadF (xs ++ [x]) = if leadF xs = 0 then x else leadF xs := by unfold leadF; rw [List.foldl_append]; rfl
theorem gcdL_snoc (xs : List Int) (x : Int) : gcdL (xs ++ [x]) = Nat.gcd (gcdL xs) x.natAbs := by unfold gcdL; rw [List.foldl_append]; rfl
theorem leadF_q (q : Q) : leadF q.vs = q.lead := by
  unfold leadF Q.vs Q.lead
  simp only [List.foldl_cons, List.foldl_nil]
  by_cases ha : q.a = 0 <;> by_cases hb : q.b = 0 <;> by_cases hc : q.c = 0 <;> simp [ha, hb, hc]
theorem eqOk_q (p q : Q) : eqOk (q4 p) (q4 q) = true := by
  unfold eqOk SeqAt.shaped q4
  simp [PyData.canLay0, PyData.canLayAll0, PyData.depth, PyData.depthAll]
theorem eqv_q (p q : Q) : PyData.eqv (q4 p) (q4 q) = decide (p = q) := by
  cases p; cases q
  rw [Bool.eq_iff_iff]
  simp [q4, PyData.eqv, PyData.eqvAll]
theorem ne_q {p q : Q} : cmpD .ne (q4 p) (q4 q) = .ok (.val (.bool (!decide (p = q)))) := by rw [ne_dd, eqOk_q, if_pos rfl, eqv_q]
theorem eq_q {p q : Q} : cmpD .eq (q4 p) (q4 q) = .ok (.val (.bool (decide (p = q)))) := by rw [eq_dd, eqOk_q, if_pos rfl, eqv_q]
theorem ne_q0 {p : Q} : cmpD .ne (q4 p) (.tuple [.int 0, .int 0, .int 0, .int 0]) = .ok (.val (.bool (!decide (p = Q.zero)))) := ne_q (q := Q.zero)
local macro_rules | `(tactic| walk_at "ev") => `(tactic| simp -implicitDefEqProofs (disch := walk_at "ok") only [exL_nil, exL_cons, next_nx, next_rt, next_ct, next_ex, S_asg, S_set, S_put, S_app, S_ite, S_for, S_whl, S_ret, S_cont, S_pass, S_frz, S_raise, put_own, putK_i, app_own, frz_nil, frz_cons, frzK_own, frzK_val, E_var, E_con, E_glob, E_tup, E_lst, E_rep, E_bop, E_neg, E_not, E_and, E_or, E_cmp, E_ix, E_sl, E_bi, E_isi, E_call, E_lc, lcO_ok, L_nil, L_cons, Bs_nil, Bs_cons, bor_var, bor_con, bor_glob, bor_tup, bor_lst, bor_rep, bor_bop, bor_neg, bor_not, bor_and, bor_or, bor_cmp, bor_ix, bor_sl, bor_bi, bor_isi, bor_call, bor_lc, lookE_val, lookB_val, lookB_own, valM_ok, valM_stuck, valM_ex, d_val, d_own, negD_i, notD_b, andD_t, andD_f, orD_t, orD_f, andD_b, orD_b, add_ii, sub_ii, mul_ii', fdiv_ii', mod_ii', pow10_9, pow10_10, pow10_12, pow10_15, pow10_20, pow10_30, pow10_60, pow10_120, add_ll, add_tt, lt_ii, le_ii, gt_ii, ge_ii, eq_ii, ne_ii, isN_d, notN_d, isB_bb, notB_bb, ix_l, ix_t, ixO_some, at_0, at_1, at_2, at_3, iteD_t, iteD_f, iteD_b, ret_var, retV_b, end_rt, end_nx, end_ex, ret_con, ret_glob, ret_tup, ret_lst, ret_rep, ret_bop, ret_neg, ret_not, ret_and, ret_or, ret_cmp, ret_ix, ret_sl, ret_bi, ret_isi, ret_call, ret_lc, isi_ii, isi_ib, isi_it, isi_il, isi_in, isi_bi, isi_bb, isi_tt, isi_tl, isi_ti, isi_tn, isi_ll, isi_lt, bi_abs, bi_len_l, bi_len_t, bi_int_i, bi_int_b, bi_list_l, bi_list_t, bi_tuple_l, bi_tuple_t, bi_sum, bi_all, sumO_some, allO_some, bi_min2, bi_max2, phi_0, phi_1, phi_2, phi_s, bindT_nm, bindT_tp, bindT_tl, bindTs_nil, bindTs_cons, it_seq, it_zip_t, it_zip_l, it_rev, itL, itT, turn_0, turn_t, turn_f, wipe_nil, wipe_cons, forF_eq, whlC_eq, whlF_eq, lcF_eq, bind_ok, bind_stuck, bind_ex, List.set_cons_zero, List.set_cons_succ, List.getElem?_cons_zero, List.getElem?_cons_succ, if_true, if_false, Bool.false_eq_true, reduceIte, part_0, part_1, sl_l, sl_t, nonD, Bool.not_true, Bool.not_false, Bool.and_true, Bool.true_and, Bool.and_false, Bool.false_and, Bool.or_true, Bool.true_or, Bool.or_false, Bool.false_or, Nat.reduceAdd, Int.cast_ofNat_Int, Int.reduceBEq, beq_self_eq_true, Int.reduceToNat, Int.reduceMul, Int.reduceAdd, Int.reduceSub, Int.reduceLT, Int.reduceLE, decide_true, decide_false, Int.reduceFMod, Int.reduceFDiv, Int.reduceNeg, Int.neg_neg, Int.zero_add, Int.add_zero, line_lt, small_i, it_rng1, it_rng2, eq_self, for_nil, for_cons, forK_nx, forK_ct, forK_rt, lc_nil, lc_cons, lcK_some, lcK_none, rng_3, rng_4, run_whole, run_cell, run_near, vals_nil, vals_cons, vals_map, allI_nil, allI_cons, allI_map, allI_app, vals_app, run_divl, run_divt, run_ldivl, run_ldivt, run_euclid, ints_all, List.length_cons, List.length_nil, List.length_map, List.length_append, List.cons_append, List.nil_append, List.length_set, List.length_reverse, go_nx, go_ct, ret_ok, run_mirrored, run_qnumber, app_ok, ix_q0, ix_q1, ix_q2, ix_q3, run_qsame, rng_0, rng_1, rng_2, turn_b, Q.vs_len, isi_q, len_q, seq_q, ne_q, eq_q, ne_q0])
theorem pair_step {n : Nat} {a b c : Int} (ha : a.natAbs < 2 ^ n) (hb : b.natAbs < 2 ^ n) : (a * (c % 100 - 50) + b).natAbs < 2 ^ (n + 7) := by
  have h2 : (c % 100 - 50).natAbs < 2 ^ 6 := by have := Int.emod_nonneg c (show (100 : Int) ≠ 0 by decide); have := Int.emod_lt_of_pos c (show (0 : Int) < 100 by decide); omega
  exact bd_mono (bd_add (bd_mul ha h2) hb) (by omega)
theorem run_pair {ns : List Int} (h : ns.length ≤ 100) : ∃ a b : Int, d_pair [.list (ns.map PyData.int)] = .ok (.val (.tuple [.int a, .int b])) ∧ Int.gcd a b = 1 ∧ a.natAbs < 2 ^ 701 ∧ b.natAbs < 2 ^ 701 := by
  have key : Ret (fun z => ∃ a b : Int, z = .val (.tuple [.int a, .int b]) ∧ Int.gcd a b = 1 ∧ a.natAbs < 2 ^ 701 ∧ b.natAbs < 2 ^ 701) (d_pair [.list (ns.map PyData.int)]) := by
    rw [o_pair rfl]
    unfold b_pair
    walk_at "ev"
    refine for_ret (fun i ρ => ∃ (a b : Int) (z : Option B), ρ = [some (.val (.list (ns.map PyData.int))), some (.val (.int a)), some (.val (.int b)), z] ∧ Int.gcd a b = 1 ∧ a.natAbs < 2 ^ (7 * i + 1) ∧ b.natAbs < 2 ^ (7 * i + 1)) ⟨1, 0, none, rfl, by decide, by decide, by decide⟩ (fun i d ρ hd ⟨a, b, z, e, hg, ha, hb⟩ => ?_) (fun ρ1 ⟨a, b, z, e, hg, ha, hb⟩ => ?_)
    · obtain ⟨c, hc, rfl⟩ := map_get hd
      subst e
      have hi : i < ns.length := (List.getElem?_eq_some_iff.mp hc).1
      have h2 : (c % 100 - 50).natAbs < 2 ^ 6 := by have := Int.emod_nonneg c (show (100 : Int) ≠ 0 by decide); have := Int.emod_lt_of_pos c (show (0 : Int) < 100 by decide); omega
      have e1 := fmod_pos (i := c) (j := 100) (by decide)
      repeat (first | walk_at "ev" | rw [e1])
      refine ⟨_, _, _, rfl, ?_, pair_step ha hb, bd_mono ha (by omega)⟩
      rw [Int.gcd_comm, Int.add_comm, Int.gcd_add_mul_left_right]
      exact hg
    · subst e
      walk_at "ev"
      rw [List.length_map] at ha hb
      exact ⟨a, b, rfl, hg, bd_mono ha (by omega), bd_mono hb (by omega)⟩
  obtain ⟨z, e, a, b, rfl, h1, h2, h3⟩ := key
  exact ⟨a, b, e, h1, h2, h3⟩
theorem lay_ints : ∀ xs : List Int, PyData.canLayAll0 (xs.map PyData.int) = true
  | [] => rfl
  | x :: xs => by rw [List.map_cons, PyData.canLayAll0, lay_ints xs]; rfl
theorem deep_ints : ∀ xs : List Int, PyData.depthAll (xs.map PyData.int) ≤ 1
  | [] => by simp [PyData.depthAll]
  | x :: xs => by have := deep_ints xs; simp [PyData.depthAll, PyData.depth] at this ⊢; omega
theorem shaped_l (xs : List Int) : SeqAt.shaped (.list (xs.map PyData.int)) = true := by
  unfold SeqAt.shaped
  have := deep_ints xs
  simp [PyData.canLay0, lay_ints, PyData.depth]; omega
theorem shaped_t (xs : List Int) : SeqAt.shaped (.tuple (xs.map PyData.int)) = true := by
  unfold SeqAt.shaped
  have := deep_ints xs
  simp [PyData.canLay0, lay_ints, PyData.depth]; omega
theorem eqv_ints : ∀ xs ys : List Int, PyData.eqvAll (xs.map PyData.int) (ys.map PyData.int) = decide (xs = ys)
  | [], [] => by simp [PyData.eqvAll]
  | [], _ :: _ => by simp [PyData.eqvAll]
  | _ :: _, [] => by simp [PyData.eqvAll]
  | x :: xs, y :: ys => by
    rw [List.map_cons, List.map_cons, PyData.eqvAll, eqv_ints xs ys, eqv_int, Bool.eq_iff_iff]
    simp
theorem ne_li {xs ys : List Int} : cmpD .ne (.list (xs.map PyData.int)) (.list (ys.map PyData.int)) = .ok (.val (.bool (!decide (xs = ys)))) := by
  rw [ne_dd, if_pos (by unfold eqOk; rw [shaped_l, shaped_l]; rfl), PyData.eqv, eqv_ints]
theorem eq_li {xs ys : List Int} : cmpD .eq (.list (xs.map PyData.int)) (.list (ys.map PyData.int)) = .ok (.val (.bool (decide (xs = ys)))) := by
  rw [eq_dd, if_pos (by unfold eqOk; rw [shaped_l, shaped_l]; rfl), PyData.eqv, eqv_ints]
local macro_rules | `(tactic| walk_at "ev") => `(tactic| simp -implicitDefEqProofs (disch := walk_at "ok") only [exL_nil, exL_cons, next_nx, next_rt, next_ct, next_ex, S_asg, S_set, S_put, S_app, S_ite, S_for, S_whl, S_ret, S_cont, S_pass, S_frz, S_raise, put_own, putK_i, app_own, frz_nil, frz_cons, frzK_own, frzK_val, E_var, E_con, E_glob, E_tup, E_lst, E_rep, E_bop, E_neg, E_not, E_and, E_or, E_cmp, E_ix, E_sl, E_bi, E_isi, E_call, E_lc, lcO_ok, L_nil, L_cons, Bs_nil, Bs_cons, bor_var, bor_con, bor_glob, bor_tup, bor_lst, bor_rep, bor_bop, bor_neg, bor_not, bor_and, bor_or, bor_cmp, bor_ix, bor_sl, bor_bi, bor_isi, bor_call, bor_lc, lookE_val, lookB_val, lookB_own, valM_ok, valM_stuck, valM_ex, d_val, d_own, negD_i, notD_b, andD_t, andD_f, orD_t, orD_f, andD_b, orD_b, add_ii, sub_ii, mul_ii', fdiv_ii', mod_ii', pow10_9, pow10_10, pow10_12, pow10_15, pow10_20, pow10_30, pow10_60, pow10_120, add_ll, add_tt, lt_ii, le_ii, gt_ii, ge_ii, eq_ii, ne_ii, isN_d, notN_d, isB_bb, notB_bb, ix_l, ix_t, ixO_some, at_0, at_1, at_2, at_3, iteD_t, iteD_f, iteD_b, ret_var, retV_b, end_rt, end_nx, end_ex, ret_con, ret_glob, ret_tup, ret_lst, ret_rep, ret_bop, ret_neg, ret_not, ret_and, ret_or, ret_cmp, ret_ix, ret_sl, ret_bi, ret_isi, ret_call, ret_lc, isi_ii, isi_ib, isi_it, isi_il, isi_in, isi_bi, isi_bb, isi_tt, isi_tl, isi_ti, isi_tn, isi_ll, isi_lt, bi_abs, bi_len_l, bi_len_t, bi_int_i, bi_int_b, bi_list_l, bi_list_t, bi_tuple_l, bi_tuple_t, bi_sum, bi_all, sumO_some, allO_some, bi_min2, bi_max2, phi_0, phi_1, phi_2, phi_s, bindT_nm, bindT_tp, bindT_tl, bindTs_nil, bindTs_cons, it_seq, it_zip_t, it_zip_l, it_rev, itL, itT, turn_0, turn_t, turn_f, wipe_nil, wipe_cons, forF_eq, whlC_eq, whlF_eq, lcF_eq, bind_ok, bind_stuck, bind_ex, List.set_cons_zero, List.set_cons_succ, List.getElem?_cons_zero, List.getElem?_cons_succ, if_true, if_false, Bool.false_eq_true, reduceIte, part_0, part_1, sl_l, sl_t, nonD, Bool.not_true, Bool.not_false, Bool.and_true, Bool.true_and, Bool.and_false, Bool.false_and, Bool.or_true, Bool.true_or, Bool.or_false, Bool.false_or, Nat.reduceAdd, Int.cast_ofNat_Int, Int.reduceBEq, beq_self_eq_true, Int.reduceToNat, Int.reduceMul, Int.reduceAdd, Int.reduceSub, Int.reduceLT, Int.reduceLE, decide_true, decide_false, Int.reduceFMod, Int.reduceFDiv, Int.reduceNeg, Int.neg_neg, Int.zero_add, Int.add_zero, line_lt, small_i, it_rng1, it_rng2, eq_self, for_nil, for_cons, forK_nx, forK_ct, forK_rt, lc_nil, lc_cons, lcK_some, lcK_none, rng_3, rng_4, run_whole, run_cell, run_near, vals_nil, vals_cons, vals_map, allI_nil, allI_cons, allI_map, allI_app, vals_app, run_divl, run_divt, run_ldivl, run_ldivt, run_euclid, ints_all, List.length_cons, List.length_nil, List.length_map, List.length_append, List.cons_append, List.nil_append, List.length_set, List.length_reverse, go_nx, go_ct, ret_ok, run_mirrored, run_qnumber, app_ok, ix_q0, ix_q1, ix_q2, ix_q3, run_qsame, rng_0, rng_1, rng_2, turn_b, Q.vs_len, isi_q, len_q, seq_q, ne_q, eq_q, ne_q0, ne_li, eq_li])
structure Mk (m n : Int) (B : Nat) (o p a b c d : Int) : Prop where
  l1 : a * m + b * n = o
  l2 : c * m + d * n = p
  g : Int.gcd o p = Int.gcd m n
  o0 : o ≠ 0
  sg : 0 ≤ o * p
  ba : a.natAbs ≤ B
  bb : b.natAbs ≤ B
  bc : c.natAbs * o.natAbs + a.natAbs * p.natAbs ≤ B
  bd : d.natAbs * o.natAbs + b.natAbs * p.natAbs ≤ B
  o1 : o.natAbs ≤ B
theorem Mk.cd {m n o p a b c d : Int} {B : Nat} (h : Mk m n B o p a b c d) : c.natAbs ≤ B ∧ d.natAbs ≤ B := by
  have h1 := h.o0
  have h2 : 0 < o.natAbs := by omega
  have h3 := Nat.le_mul_of_pos_right c.natAbs h2
  have h4 := Nat.le_mul_of_pos_right d.natAbs h2
  have := h.bc
  have := h.bd
  omega
theorem same_div {o p : Int} (h : 0 ≤ o * p) (hp : p ≠ 0) : (o.fdiv p).natAbs = o.natAbs / p.natAbs ∧ (o - o.fdiv p * p).natAbs = o.natAbs % p.natAbs ∧ 0 ≤ p * (o - o.fdiv p * p) := by
  have e : o - o.fdiv p * p = o.fmod p := by have := Int.fmod_add_fdiv_mul o p; omega
  rw [e]
  rcases Int.lt_or_gt_of_ne hp with hn | hn
  · have ho : o ≤ 0 := by
      rcases Int.lt_or_le 0 o with h1 | h1
      · have := Int.mul_neg_of_pos_of_neg h1 hn; omega
      · exact h1
    obtain ⟨x, rfl⟩ : ∃ x : Nat, o = -(x : Int) := ⟨o.natAbs, by omega⟩
    obtain ⟨y, rfl⟩ : ∃ y : Nat, p = -(y : Int) := ⟨p.natAbs, by omega⟩
    rw [Int.neg_fdiv_neg, Int.neg_fmod_neg, fdiv_pos (by omega), fmod_pos (by omega)]
    have hy : 0 < (y : Int) := by omega
    have q1 := Int.emod_nonneg (x : Int) (show (y : Int) ≠ 0 by omega)
    refine ⟨?_, ?_, ?_⟩
    · rw [← Int.natCast_ediv, Int.natAbs_natCast, Int.natAbs_neg, Int.natAbs_neg, Int.natAbs_natCast, Int.natAbs_natCast]
    · rw [← Int.natCast_emod, Int.natAbs_neg, Int.natAbs_natCast, Int.natAbs_neg, Int.natAbs_neg, Int.natAbs_natCast, Int.natAbs_natCast]
    · rw [Int.neg_mul_neg]
      exact Int.mul_nonneg (by omega) q1
  · have ho : 0 ≤ o := by
      rcases Int.lt_or_le o 0 with h1 | h1
      · have := Int.mul_neg_of_neg_of_pos h1 hn; omega
      · exact h1
    obtain ⟨x, rfl⟩ : ∃ x : Nat, o = (x : Int) := ⟨o.natAbs, by omega⟩
    obtain ⟨y, rfl⟩ : ∃ y : Nat, p = (y : Int) := ⟨p.natAbs, by omega⟩
    rw [fdiv_pos hn, fmod_pos hn]
    have q1 := Int.emod_nonneg (x : Int) (show (y : Int) ≠ 0 by omega)
    refine ⟨?_, ?_, Int.mul_nonneg (by omega) q1⟩
    · rw [← Int.natCast_ediv, Int.natAbs_natCast, Int.natAbs_natCast, Int.natAbs_natCast]
    · rw [← Int.natCast_emod, Int.natAbs_natCast, Int.natAbs_natCast, Int.natAbs_natCast]
theorem mk_le {x y k o p B : Nat} (h : y * o + x * p ≤ B) (e : o = k * p + r) (hz : z ≤ x + k * y) : z * p + y * r ≤ B := by
  have h1 : z * p ≤ (x + k * y) * p := Nat.mul_le_mul_right p hz
  have h2 : (x + k * y) * p + y * r = y * o + x * p := by rw [e]; grind
  omega
theorem Mk.step {m n o p a b c d : Int} {B : Nat} (h : Mk m n B o p a b c d) (hp : p ≠ 0) : Mk m n B p (o - o.fdiv p * p) c d (a - o.fdiv p * c) (b - o.fdiv p * d) ∧ (o - o.fdiv p * p).natAbs < p.natAbs := by
  obtain ⟨q1, q2, q3⟩ := same_div h.sg hp
  have hpp : 0 < p.natAbs := by omega
  have e : o.natAbs = (o.fdiv p).natAbs * p.natAbs + (o - o.fdiv p * p).natAbs := by
    rw [q1, q2, Nat.mul_comm]; exact (Nat.div_add_mod _ _).symm
  have hlt : (o - o.fdiv p * p).natAbs < p.natAbs := by rw [q2]; exact Nat.mod_lt _ hpp
  have le_o : p.natAbs ≤ B := by
    have h1 := h.bc
    have h2 := h.bd
    have := h.l2
    by_cases hk : a = 0
    · have hb : b ≠ 0 := fun z => by
        have := h.l1
        rw [hk, z] at this
        have := h.o0
        omega
      have : 0 < b.natAbs := by omega
      have := Nat.le_mul_of_pos_left p.natAbs this
      omega
    · have : 0 < a.natAbs := by omega
      have := Nat.le_mul_of_pos_left p.natAbs this
      omega
  refine ⟨⟨h.l2, ?_, ?_, hp, q3, h.cd.1, h.cd.2, mk_le h.bc e ?_, mk_le h.bd e ?_, le_o⟩, hlt⟩
  · rw [Int.sub_mul, Int.sub_mul, ← h.l1, ← h.l2]; grind
  · rw [Int.gcd_comm, ← h.g, show o - o.fdiv p * p = o + -(o.fdiv p) * p by rw [Int.neg_mul, Int.sub_eq_add_neg], Int.gcd_add_mul_right_left]
  · have := Int.natAbs_sub_le a (o.fdiv p * c)
    rw [Int.natAbs_mul] at this
    exact this
  · have := Int.natAbs_sub_le b (o.fdiv p * d)
    rw [Int.natAbs_mul] at this
    exact this
theorem fmod_sg {m n : Int} (h : n ≠ 0) : 0 ≤ n * m.fmod n ∧ (m.fmod n).natAbs < n.natAbs := by
  rcases Int.lt_or_gt_of_ne h with hn | hn
  · have e : m.fmod n = -((-m).fmod (-n)) := by rw [Int.neg_fmod_neg, Int.neg_neg]
    rw [e, fmod_pos (by omega)]
    have q1 := Int.emod_nonneg (-m) (show -n ≠ 0 by omega)
    have q2 := Int.emod_lt_of_pos (-m) (show 0 < -n by omega)
    refine ⟨?_, by omega⟩
    rw [Int.mul_neg, ← Int.neg_mul]
    exact Int.mul_nonneg (by omega) q1
  · rw [fmod_pos hn]
    have q1 := Int.emod_nonneg m h
    have q2 := Int.emod_lt_of_pos m hn
    exact ⟨Int.mul_nonneg (by omega) q1, by omega⟩
theorem Mk.first {m n : Int} (h : n ≠ 0) : Mk m n (m.natAbs + 2 * n.natAbs + 1) n (m - m.fdiv n * n) 0 1 (1 - m.fdiv n * 0) (0 - m.fdiv n * 1) := by
  obtain ⟨s1, s2⟩ := fmod_sg (m := m) h
  have e : m - m.fdiv n * n = m.fmod n := by have := Int.fmod_add_fdiv_mul m n; omega
  have e2 : m.fdiv n * n = m - m.fmod n := by omega
  have e3 : (m.fdiv n).natAbs * n.natAbs ≤ m.natAbs + n.natAbs := by
    rw [← Int.natAbs_mul, e2]; omega
  refine ⟨by omega, by grind, ?_, h, by rw [e]; exact s1, by omega, by omega, ?_, ?_, by omega⟩
  · rw [Int.gcd_comm, show m - m.fdiv n * n = m + -(m.fdiv n) * n by rw [Int.neg_mul, Int.sub_eq_add_neg], Int.gcd_add_mul_right_left]
  · rw [e, Int.mul_zero, show ((1 : Int) - 0).natAbs = 1 from rfl, show (0 : Int).natAbs = 0 from rfl, Nat.one_mul, Nat.zero_mul]
    omega
  · rw [e, Int.mul_one, Int.zero_sub, Int.natAbs_neg, show (1 : Int).natAbs = 1 from rfl, Nat.one_mul]
    omega
def slotN (ρ : En) (i : Nat) : Nat := match ρ[i]? with
  | some (some (.val (.int p))) => p.natAbs
  | _ => 0
theorem run_makings {m n : Int} {k : Nat} (hm : m.natAbs < 2 ^ k) (hn : n.natAbs < 2 ^ k) (hk : k ≤ 8000) :
    ∃ x y : Int, d_makings [.int m, .int n] = .ok (.val (.tuple [.int (Int.gcd m n : Nat), .int x, .int y])) ∧ x * m + y * n = (Int.gcd m n : Nat) ∧ x.natAbs < 2 ^ (k + 2) ∧ y.natAbs < 2 ^ (k + 2) := by
  have fin : ∀ (o p a b c d : Int) (z : Option B), p = 0 → a * m + b * n = o → Int.gcd o p = Int.gcd m n → a.natAbs < 2 ^ (k + 2) → b.natAbs < 2 ^ (k + 2) →
      ∃ x y : Int, endD (exL (phi []) [.ite (.cmp .lt (.var 0) (.con (.int 0))) [.ret (.tup [.neg (.var 0), .neg (.var 2), .neg (.var 3)])] [], .ret (.tup [.var 0, .var 2, .var 3])] [some (.val (.int o)), some (.val (.int p)), some (.val (.int a)), some (.val (.int b)), some (.val (.int c)), some (.val (.int d)), z]) = .ok (.val (.tuple [.int (Int.gcd m n : Nat), .int x, .int y])) ∧ x * m + y * n = (Int.gcd m n : Nat) ∧ x.natAbs < 2 ^ (k + 2) ∧ y.natAbs < 2 ^ (k + 2) := by
    intro o p a b c d z hp hl hg ha hb
    subst hp
    rw [Int.gcd_zero_right] at hg
    by_cases h0 : o < 0
    · refine ⟨-a, -b, ?_, ?_, bd_neg ha, bd_neg hb⟩
      · walk_at "ev"
        rw [decide_eq_true h0]
        walk_at "ev"
        rw [← hg, show -o = (o.natAbs : Int) by omega]
      · rw [← hg, show (o.natAbs : Int) = -o by omega, ← hl]; grind
    · refine ⟨a, b, ?_, ?_, ha, hb⟩
      · walk_at "ev"
        rw [decide_eq_false h0]
        walk_at "ev"
        rw [← hg, show (o.natAbs : Int) = o by omega]
      · rw [← hg, show (o.natAbs : Int) = o by omega, ← hl]
  have pk : 2 ^ (k + 2) = 4 * 2 ^ k := by rw [Nat.pow_add, Nat.mul_comm]
  by_cases h0 : n = 0
  · subst h0
    obtain ⟨x, y, e1, e2⟩ := fin m 0 1 0 0 1 none rfl (by omega) rfl (by have := Nat.pow_pos (n := k) (show 0 < 2 by decide); omega) (by have := Nat.pow_pos (n := k) (show 0 < 2 by decide); omega)
    refine ⟨x, y, o_makings ?_, e2⟩
    unfold b_makings
    walk_at "ev"
    rw [whlD_false (by walk_at "ev")]
    rw [next_nx]
    exact e1
  · have M0 := Mk.first (m := m) h0
    generalize hB : m.natAbs + 2 * n.natAbs + 1 = B at M0
    have hBk : B < 2 ^ (k + 2) := by omega
    obtain ⟨ρ1, w1, o, p, a, b, c, d, z, rfl, hM, hp⟩ := whl_by (c := whlC (phi []) (.cmp .ne (.var 1) (.con (.int 0)))) (f := whlF (phi []) [.asg (.nm 6) (.bop .fdiv (.var 0) (.var 1)), .asg (.tp [.nm 0, .nm 1]) (.tup [.var 1, .bop .sub (.var 0) (.bop .mul (.var 6) (.var 1))]), .asg (.tp [.nm 2, .nm 4]) (.tup [.var 4, .bop .sub (.var 2) (.bop .mul (.var 6) (.var 4))]), .asg (.tp [.nm 3, .nm 5]) (.tup [.var 5, .bop .sub (.var 3) (.bop .mul (.var 6) (.var 5))])])
      (fun ρ => ∃ o p a b c d z, ρ = [some (.val (.int o)), some (.val (.int p)), some (.val (.int a)), some (.val (.int b)), some (.val (.int c)), some (.val (.int d)), z] ∧ Mk m n B o p a b c d) (fun ρ => slotN ρ 1)
      (fun ρ => ∃ o p a b c d z, ρ = [some (.val (.int o)), some (.val (.int p)), some (.val (.int a)), some (.val (.int b)), some (.val (.int c)), some (.val (.int d)), z] ∧ Mk m n B o p a b c d ∧ p = 0)
      (fun ρ ⟨o, p, a, b, c, d, z, e, hM⟩ => by
        subst e
        by_cases hp : p = 0
        · exact .inl ⟨by walk_at "ev"; rw [show (p == 0) = true by simpa using hp]; rfl, o, p, a, b, c, d, z, rfl, hM, hp⟩
        · obtain ⟨hM2, hlt⟩ := hM.step hp
          refine .inr ⟨by walk_at "ev"; rw [show (p == 0) = false by simpa using hp]; rfl, [some (.val (.int p)), some (.val (.int (o - o.fdiv p * p))), some (.val (.int c)), some (.val (.int d)), some (.val (.int (a - o.fdiv p * c))), some (.val (.int (b - o.fdiv p * d))), some (.val (.int (o.fdiv p)))], ?_, ⟨_, _, _, _, _, _, _, rfl, hM2⟩, hlt⟩
          have b1 : o.natAbs < 2 ^ (k + 2) := Nat.lt_of_le_of_lt hM.o1 hBk
          have b2 : p.natAbs < 2 ^ (k + 2) := Nat.lt_of_le_of_lt hM2.o1 hBk
          have b3 : c.natAbs < 2 ^ (k + 2) := Nat.lt_of_le_of_lt hM.cd.1 hBk
          have b4 : d.natAbs < 2 ^ (k + 2) := Nat.lt_of_le_of_lt hM.cd.2 hBk
          have b5 : (o.fdiv p).natAbs < 2 ^ (k + 2) := by
            rw [(same_div hM.sg hp).1]
            exact Nat.lt_of_le_of_lt (Nat.div_le_self _ _) b1
          have b6 : p.natAbs < 2 ^ 9000 := bd_mono b2 (by omega)
          walk_at "ev") _ ⟨_, _, _, _, _, _, some (.val (.int (m.fdiv n))), rfl, M0⟩
    obtain ⟨x, y, e1, e2⟩ := fin o p a b c d z hp hM.l1 hM.g (Nat.lt_of_le_of_lt hM.ba hBk) (Nat.lt_of_le_of_lt hM.bb hBk)
    refine ⟨x, y, o_makings ?_, e2⟩
    unfold b_makings
    walk_at "ev"
    have b5 : (m.fdiv n).natAbs < 2 ^ (k + 2) := by
      have h1 := M0.cd.2
      rw [Int.mul_one, Int.zero_sub, Int.natAbs_neg] at h1
      omega
    have b6 : n.natAbs < 2 ^ 9000 := bd_mono hn (by omega)
    rw [whlD_true (by walk_at "ev"; rw [show (n == 0) = false by simpa using h0]; rfl) (by walk_at "ev") w1 (fun z => nomatch z)]
    rw [next_nx]
    exact e1
def Pr (p : Int) : Prop := 2 ≤ p ∧ ∀ d : Int, 2 ≤ d → d < p → ¬ d ∣ p
def prodI (xs : List Int) : Int := xs.foldl (· * ·) 1
theorem prodI_snoc (xs : List Int) (x : Int) : prodI (xs ++ [x]) = prodI xs * x := by unfold prodI; rw [List.foldl_append]; rfl
structure PI (N n : Int) (f : List Int) (p : Int) : Prop where
  n1 : 1 ≤ n
  p2 : 2 ≤ p
  e : prodI f * n = N
  pr : ∀ q ∈ f, Pr q ∧ q ≤ p ∧ q ≤ N
  s : f.Pairwise (· ≤ ·)
  nd : ∀ d : Int, 2 ≤ d → d < p → ¬ d ∣ n
  l : 2 ^ f.length * n ≤ N
  nN : n ≤ N
theorem PI.len {N n p : Int} {f : List Int} {k : Nat} (h : PI N n f p) (hN : N < 2 ^ k) : f.length < k := by
  have h1 : (2 : Int) ^ f.length * 1 ≤ 2 ^ f.length * n := Int.mul_le_mul_of_nonneg_left h.n1 (Int.le_of_lt (Int.pow_pos (by decide)))
  have h2 : (2 : Int) ^ f.length < 2 ^ k := by have := h.l; omega
  rcases Nat.lt_or_ge f.length k with h3 | h3
  · exact h3
  · have : (2 : Int) ^ k ≤ 2 ^ f.length := by
      have := Nat.pow_le_pow_right (show 0 < 2 by decide) h3
      exact_mod_cast this
    omega
theorem PI.app {N n p : Int} {f : List Int} (h : PI N n f p) (hd : n % p = 0) : PI N (n / p) (f ++ [p]) p ∧ n / p < n := by
  have hp := h.p2
  have e : n = p * (n / p) := by have := Int.mul_ediv_add_emod n p; omega
  have hq : 1 ≤ n / p := by
    rcases Int.lt_or_le (n / p) 1 with z | z
    · have : p * (n / p) ≤ p * 0 := Int.mul_le_mul_of_nonneg_left (by omega) (by omega)
      have := h.n1
      omega
    · exact z
  have hlt : 2 * (n / p) ≤ p * (n / p) := Int.mul_le_mul_of_nonneg_right hp (by omega)
  have hpn : p ≤ n := by
    have : p * 1 ≤ p * (n / p) := Int.mul_le_mul_of_nonneg_left hq (by omega)
    omega
  refine ⟨⟨hq, hp, ?_, ?_, ?_, ?_, ?_, by have := h.nN; omega⟩, by omega⟩
  · rw [prodI_snoc, Int.mul_assoc, ← e]; exact h.e
  · intro q hq
    rcases List.mem_append.mp hq with hq | hq
    · exact h.pr q hq
    · rw [List.mem_singleton.mp hq]
      refine ⟨⟨hp, fun d d2 dp dd => h.nd d d2 dp (Int.dvd_trans dd ⟨n / p, e⟩)⟩, Int.le_refl _, by have := h.nN; omega⟩
  · rw [List.pairwise_append]
    exact ⟨h.s, List.pairwise_singleton _ _, fun a ha b hb => by rw [List.mem_singleton.mp hb]; exact (h.pr a ha).2.1⟩
  · intro d d2 dp dd
    exact h.nd d d2 dp (Int.dvd_trans dd ⟨p, by rw [Int.mul_comm]; exact e⟩)
  · rw [List.length_append, List.length_singleton, Int.pow_succ, Int.mul_assoc]
    refine Int.le_trans (Int.mul_le_mul_of_nonneg_left (show 2 * (n / p) ≤ n by omega) (Int.le_of_lt (Int.pow_pos (by decide)))) h.l
theorem PI.next {N n p : Int} {f : List Int} (h : PI N n f p) (hd : ¬ n % p = 0) : PI N n f (p + 1) :=
  ⟨h.n1, by have := h.p2; omega, h.e, fun q hq => ⟨(h.pr q hq).1, by have := (h.pr q hq).2.1; omega, (h.pr q hq).2.2⟩, h.s, fun d d2 dp dd => by
    rcases Int.lt_or_le d p with z | z
    · exact h.nd d d2 z dd
    · have : d = p := by omega
      subst this
      exact hd (Int.emod_eq_zero_of_dvd dd), h.l, h.nN⟩
theorem PI.last {N n p : Int} {f : List Int} (h : PI N n f p) (hp : n < p * p) (h1 : 1 < n) : Pr n ∧ ∀ q ∈ f, q ≤ n := by
  have hpn : p ≤ n := by
    rcases Int.lt_or_le n p with z | z
    · exact absurd (Int.dvd_refl n) (h.nd n (by omega) z)
    · exact z
  refine ⟨⟨by omega, fun d d2 dn ⟨e, he⟩ => ?_⟩, fun q hq => Int.le_trans (h.pr q hq).2.1 hpn⟩
  have e2 : 2 ≤ e := by
    rcases Int.lt_or_le e 2 with z | z
    · have : d * e ≤ d * 1 := Int.mul_le_mul_of_nonneg_left (by omega) (by omega)
      omega
    · exact z
  have hdp : p ≤ d := by
    rcases Int.lt_or_le d p with z | z
    · exact absurd ⟨e, he⟩ (h.nd d d2 z)
    · exact z
  have hep : p ≤ e := by
    rcases Int.lt_or_le e p with z | z
    · exact absurd ⟨d, by rw [Int.mul_comm]; exact he⟩ (h.nd e e2 z)
    · exact z
  have : p * p ≤ d * e := Int.mul_le_mul hdp hep (by have := h.p2; omega) (by omega)
  omega
def prC : E := .cmp .eq (.bop .mod (.var 0) (.var 2)) (.con (.int 0))
def prF : List S := [.app 1 (.var 2), .asg (.nm 0) (.bop .fdiv (.var 0) (.var 2))]
theorem slot0 {x : Int} {r : En} : slotN (some (.val (.int x)) :: r) 0 = x.natAbs := rfl
theorem slot2 {x : Int} {a b : Option B} {r : En} : slotN (a :: b :: some (.val (.int x)) :: r) 2 = x.natAbs := rfl
theorem pr_inner {N : Int} {k : Nat} (hN : N < 2 ^ k) (hk : k ≤ 1000) {n p : Int} {f : List Int} (h : PI N n f p) :
    ∃ n2 f2, whlD (whlC (phi []) prC) (whlF (phi []) prF) [some (.val (.int n)), some (.own (f.map PyData.int)), some (.val (.int p))] = .ok (.nx [some (.val (.int n2)), some (.own (f2.map PyData.int)), some (.val (.int p))]) ∧ PI N n2 f2 p ∧ ¬ n2 % p = 0 ∧ n2 ≤ n := by
  obtain ⟨ρ1, w1, n2, f2, rfl, h2, h3, h4⟩ := whl_by (c := whlC (phi []) prC) (f := whlF (phi []) prF)
    (fun ρ => ∃ n2 f2, ρ = [some (.val (.int n2)), some (.own (List.map PyData.int f2)), some (.val (.int p))] ∧ PI N n2 f2 p ∧ n2 ≤ n) (fun ρ => slotN ρ 0)
    (fun ρ => ∃ n2 f2, ρ = [some (.val (.int n2)), some (.own (List.map PyData.int f2)), some (.val (.int p))] ∧ PI N n2 f2 p ∧ ¬ n2 % p = 0 ∧ n2 ≤ n)
    (fun ρ ⟨n2, f2, e, hP, hle⟩ => by
      subst e
      have hp := hP.p2
      have hp0 : p ≠ 0 := by omega
      have e1 := fmod_pos (i := n2) (j := p) (by omega)
      have e2 := fdiv_pos (i := n2) (j := p) (by omega)
      by_cases hd : n2 % p = 0
      · obtain ⟨q1, q2⟩ := hP.app hd
        have hl := hP.len hN
        have hpn : p.natAbs < 2 ^ 9000 := by
          have h1 : p ≤ n2 := by
            have e : n2 = p * (n2 / p) := by have := Int.mul_ediv_add_emod n2 p; omega
            have : p * 1 ≤ p * (n2 / p) := Int.mul_le_mul_of_nonneg_left q1.n1 (by omega)
            omega
          have h2 : p.natAbs < 2 ^ k := by
            have := hP.nN
            have : p < 2 ^ k := by omega
            have h3 : (p.natAbs : Int) < ((2 ^ k : Nat) : Int) := by rw [Int.natCast_pow]; simp only [Int.cast_ofNat_Int]; omega
            omega
          exact bd_mono h2 (by omega)
        refine .inr ⟨by unfold prC; walk_at "ev"; rw [e1, hd]; rfl, _, by unfold prF; walk_at "ev"; rw [e2], ⟨n2 / p, f2 ++ [p], by rw [List.map_append]; rfl, q1, by omega⟩, ?_⟩
        show (n2 / p).natAbs < n2.natAbs
        have := q1.n1
        omega
      · exact .inl ⟨by unfold prC; walk_at "ev"; rw [e1, show (n2 % p == 0) = false by simpa using hd], n2, f2, rfl, hP, hd, hle⟩) _ ⟨n, f, rfl, h, Int.le_refl _⟩
  exact ⟨n2, f2, w1, h2, h3, h4⟩
theorem run_primes {N : Int} {k : Nat} (h1 : 1 ≤ N) (hN : N < 2 ^ k) (hk : k ≤ 1000) :
    ∃ ps : List Int, d_primes [.int N] = .ok (.own (ps.map PyData.int)) ∧ prodI ps = N ∧ (∀ q ∈ ps, Pr q ∧ q ≤ N) ∧ ps.Pairwise (· ≤ ·) ∧ ps.length ≤ k := by
  have P0 : PI N N [] 2 := ⟨h1, by decide, by unfold prodI; exact Int.one_mul N, (fun q hq => by cases hq), .nil, (fun d a b => by omega), by simp, Int.le_refl _⟩
  obtain ⟨ρ1, w1, n, f, p, rfl, hP, hp⟩ := whl_by (c := whlC (phi []) (.cmp .le (.bop .mul (.var 2) (.var 2)) (.var 0))) (f := whlF (phi []) [.whl prC prF, .asg (.nm 2) (.bop .add (.var 2) (.con (.int 1)))])
    (fun ρ => ∃ n f p, ρ = [some (.val (.int n)), some (.own (List.map PyData.int f)), some (.val (.int p))] ∧ PI N n f p ∧ p ≤ N + 1) (fun ρ => slotN ρ 0 + 1 - slotN ρ 2)
    (fun ρ => ∃ n f p, ρ = [some (.val (.int n)), some (.own (List.map PyData.int f)), some (.val (.int p))] ∧ PI N n f p ∧ n < p * p)
    (fun ρ ⟨n, f, p, e, hP, hpN⟩ => by
      subst e
      have hb : p.natAbs < 2 ^ (k + 2) := by
        have h3 : (p.natAbs : Int) < ((2 ^ (k + 2) : Nat) : Int) := by
          rw [Int.natCast_pow]
          simp only [Int.cast_ofNat_Int]
          have := hP.p2
          rw [Int.pow_add]
          omega
        omega
      by_cases hc : p * p ≤ n
      · obtain ⟨n2, f2, w2, hP2, hd, hle⟩ := pr_inner hN hk hP
        have hpn : p ≤ n := by
          have : p * 1 ≤ p * p := Int.mul_le_mul_of_nonneg_left (by have := hP.p2; omega) (by have := hP.p2; omega)
          omega
        refine .inr ⟨by walk_at "ev"; rw [decide_eq_true hc], [some (.val (.int n2)), some (.own (f2.map PyData.int)), some (.val (.int (p + 1)))], by walk_at "ev"; rw [w2]; walk_at "ev", ⟨n2, f2, p + 1, rfl, hP2.next hd, by have := hP.nN; omega⟩, ?_⟩
        show n2.natAbs + 1 - (p + 1).natAbs < n.natAbs + 1 - p.natAbs
        have := hP.p2
        have := hP2.n1
        omega
      · exact .inl ⟨by walk_at "ev"; rw [decide_eq_false hc], n, f, p, rfl, hP, by omega⟩) _ ⟨N, [], 2, rfl, P0, by omega⟩
  have hl := hP.len hN
  have go : ∀ (r : M B) (ps : List Int), r = .ok (.own (ps.map PyData.int)) → (d_primes [.int N] = r) → prodI ps = N ∧ (∀ q ∈ ps, Pr q ∧ q ≤ N) ∧ ps.Pairwise (· ≤ ·) ∧ ps.length ≤ k → ∃ ps : List Int, d_primes [.int N] = .ok (.own (ps.map PyData.int)) ∧ prodI ps = N ∧ (∀ q ∈ ps, Pr q ∧ q ≤ N) ∧ ps.Pairwise (· ≤ ·) ∧ ps.length ≤ k := fun r ps e1 e2 h => ⟨ps, e2.trans e1, h⟩
  by_cases hn : 1 < n
  · obtain ⟨l1, l2⟩ := hP.last hp hn
    refine ⟨f ++ [n], o_primes ?_, by rw [prodI_snoc]; exact hP.e, fun q hq => ?_, ?_, by rw [List.length_append, List.length_singleton]; omega⟩
    · unfold b_primes
      walk_at "ev"
      unfold prC prF at w1
      rw [show ([] : List D) = List.map PyData.int [] from rfl] at *
      rw [w1]
      walk_at "ev"
      rw [decide_eq_true hn]
      walk_at "ev"
      rw [List.map_append]
      rfl
    · rcases List.mem_append.mp hq with hq | hq
      · exact ⟨(hP.pr q hq).1, (hP.pr q hq).2.2⟩
      · rw [List.mem_singleton.mp hq]; exact ⟨l1, hP.nN⟩
    · rw [List.pairwise_append]
      exact ⟨hP.s, List.pairwise_singleton _ _, fun a ha b hb => by rw [List.mem_singleton.mp hb]; exact l2 a ha⟩
  · have : n = 1 := by have := hP.n1; omega
    subst this
    refine ⟨f, o_primes ?_, by have := hP.e; rwa [Int.mul_one] at this, fun q hq => ⟨(hP.pr q hq).1, (hP.pr q hq).2.2⟩, hP.s, by omega⟩
    unfold b_primes
    walk_at "ev"
    unfold prC prF at w1
    rw [show ([] : List D) = List.map PyData.int [] from rfl] at *
    rw [w1]
    walk_at "ev"
structure V3 where
  x : Int
  y : Int
  z : Int
structure Tn where
  p : V3
  q : V3
  r : V3
  n : Int
def t3 (v : V3) : D := .tuple [.int v.x, .int v.y, .int v.z]
def m3 (T : Tn) : D := .tuple [t3 T.p, t3 T.q, t3 T.r]
def tn (T : Tn) : D := .tuple [m3 T, .int T.n]
def V3.vs (v : V3) : List Int := [v.x, v.y, v.z]
def V3.ok (v : V3) (n : Nat) : Prop := v.x.natAbs < 2 ^ n ∧ v.y.natAbs < 2 ^ n ∧ v.z.natAbs < 2 ^ n
def V3.dot (v w : V3) : Int := v.x * w.x + v.y * w.y + v.z * w.z
def V3.div (v : V3) (g : Int) : V3 := ⟨v.x / g, v.y / g, v.z / g⟩
def V3.sc (g : Int) (v : V3) : V3 := ⟨g * v.x, g * v.y, g * v.z⟩
def Tn.ok (T : Tn) (n : Nat) : Prop := T.p.ok n ∧ T.q.ok n ∧ T.r.ok n ∧ T.n.natAbs < 2 ^ n
def Tn.all (T : Tn) : List Int := [T.p.x, T.p.y, T.p.z, T.q.x, T.q.y, T.q.z, T.r.x, T.r.y, T.r.z, T.n]
def Tn.g (T : Tn) : Int := (gcdL T.all : Nat)
def Tn.low (T : Tn) : Tn := ⟨T.p.div T.g, T.q.div T.g, T.r.div T.g, T.n / T.g⟩
def Tn.sc (s : Int) (T : Tn) : Tn := ⟨V3.sc s T.p, V3.sc s T.q, V3.sc s T.r, s * T.n⟩
theorem ix_v0 {v : V3} : ixD (t3 v) (.int 0) = .ok (.val (.int v.x)) := by unfold t3; rw [ix_t, at_0]; rfl
theorem ix_v1 {v : V3} : ixD (t3 v) (.int 1) = .ok (.val (.int v.y)) := by unfold t3; rw [ix_t, at_1]; rfl
theorem ix_v2 {v : V3} : ixD (t3 v) (.int 2) = .ok (.val (.int v.z)) := by unfold t3; rw [ix_t, at_2]; rfl
theorem ix_m0 {T : Tn} : ixD (m3 T) (.int 0) = .ok (.val (t3 T.p)) := by unfold m3; rw [ix_t, at_0]; rfl
theorem ix_m1 {T : Tn} : ixD (m3 T) (.int 1) = .ok (.val (t3 T.q)) := by unfold m3; rw [ix_t, at_1]; rfl
theorem ix_m2 {T : Tn} : ixD (m3 T) (.int 2) = .ok (.val (t3 T.r)) := by unfold m3; rw [ix_t, at_2]; rfl
theorem ix_n0 {T : Tn} : ixD (tn T) (.int 0) = .ok (.val (m3 T)) := by unfold tn; rw [ix_t, at_0]; rfl
theorem ix_n1 {T : Tn} : ixD (tn T) (.int 1) = .ok (.val (.int T.n)) := by unfold tn; rw [ix_t, at_1]; rfl
theorem seq_v {v : V3} : seqD (t3 v) = .ok [.int v.x, .int v.y, .int v.z] := rfl
theorem seq_m {T : Tn} : seqD (m3 T) = .ok [t3 T.p, t3 T.q, t3 T.r] := rfl
theorem isi_v {v : V3} : isiD .tuple (t3 v) = .ok (.val (.bool true)) := rfl
theorem isi_m {T : Tn} : isiD .tuple (m3 T) = .ok (.val (.bool true)) := rfl
theorem isi_n {T : Tn} : isiD .tuple (tn T) = .ok (.val (.bool true)) := rfl
theorem len_v {v : V3} : biD .len [t3 v] = .ok (.val (.int 3)) := rfl
theorem len_m {T : Tn} : biD .len [m3 T] = .ok (.val (.int 3)) := rfl
theorem len_n {T : Tn} : biD .len [tn T] = .ok (.val (.int 2)) := rfl
theorem list_v {v : V3} : biD .list [t3 v] = .ok (.own [.int v.x, .int v.y, .int v.z]) := rfl
theorem bind_v {v : V3} {ts : List Tg} {ρ : En} : bindT (.tp ts) (t3 v) ρ = bindTs ts [.int v.x, .int v.y, .int v.z] ρ := rfl
theorem bind_m {T : Tn} {ts : List Tg} {ρ : En} : bindT (.tp ts) (m3 T) ρ = bindTs ts [t3 T.p, t3 T.q, t3 T.r] ρ := rfl
theorem bind_n {T : Tn} {ts : List Tg} {ρ : En} : bindT (.tp ts) (tn T) ρ = bindTs ts [m3 T, .int T.n] ρ := rfl
theorem bind_q {q : Q} {ts : List Tg} {ρ : En} : bindT (.tp ts) (q4 q) ρ = bindTs ts [.int q.a, .int q.b, .int q.c, .int q.d] ρ := rfl
theorem add_vv {v w : V3} : bopD .add (t3 v) (t3 w) = .ok (.val (.tuple [.int v.x, .int v.y, .int v.z, .int w.x, .int w.y, .int w.z])) := rfl
theorem add_tv {a b c d e f : Int} {w : V3} : bopD .add (.tuple [.int a, .int b, .int c, .int d, .int e, .int f]) (t3 w) = .ok (.val (.tuple [.int a, .int b, .int c, .int d, .int e, .int f, .int w.x, .int w.y, .int w.z])) := rfl
local macro_rules | `(tactic| walk_at "ev") => `(tactic| simp -implicitDefEqProofs (disch := walk_at "ok") only [exL_nil, exL_cons, next_nx, next_rt, next_ct, next_ex, S_asg, S_set, S_put, S_app, S_ite, S_for, S_whl, S_ret, S_cont, S_pass, S_frz, S_raise, put_own, putK_i, app_own, frz_nil, frz_cons, frzK_own, frzK_val, E_var, E_con, E_glob, E_tup, E_lst, E_rep, E_bop, E_neg, E_not, E_and, E_or, E_cmp, E_ix, E_sl, E_bi, E_isi, E_call, E_lc, lcO_ok, L_nil, L_cons, Bs_nil, Bs_cons, bor_var, bor_con, bor_glob, bor_tup, bor_lst, bor_rep, bor_bop, bor_neg, bor_not, bor_and, bor_or, bor_cmp, bor_ix, bor_sl, bor_bi, bor_isi, bor_call, bor_lc, lookE_val, lookB_val, lookB_own, valM_ok, valM_stuck, valM_ex, d_val, d_own, negD_i, notD_b, andD_t, andD_f, orD_t, orD_f, andD_b, orD_b, add_ii, sub_ii, mul_ii', fdiv_ii', mod_ii', pow10_9, pow10_10, pow10_12, pow10_15, pow10_20, pow10_30, pow10_60, pow10_120, add_ll, add_tt, lt_ii, le_ii, gt_ii, ge_ii, eq_ii, ne_ii, isN_d, notN_d, isB_bb, notB_bb, ix_l, ix_t, ixO_some, at_0, at_1, at_2, at_3, iteD_t, iteD_f, iteD_b, ret_var, retV_b, end_rt, end_nx, end_ex, ret_con, ret_glob, ret_tup, ret_lst, ret_rep, ret_bop, ret_neg, ret_not, ret_and, ret_or, ret_cmp, ret_ix, ret_sl, ret_bi, ret_isi, ret_call, ret_lc, isi_ii, isi_ib, isi_it, isi_il, isi_in, isi_bi, isi_bb, isi_tt, isi_tl, isi_ti, isi_tn, isi_ll, isi_lt, bi_abs, bi_len_l, bi_len_t, bi_int_i, bi_int_b, bi_list_l, bi_list_t, bi_tuple_l, bi_tuple_t, bi_sum, bi_all, sumO_some, allO_some, bi_min2, bi_max2, phi_0, phi_1, phi_2, phi_s, bindT_nm, bindT_tp, bindT_tl, bindTs_nil, bindTs_cons, it_seq, it_zip_t, it_zip_l, it_rev, itL, itT, turn_0, turn_t, turn_f, wipe_nil, wipe_cons, forF_eq, whlC_eq, whlF_eq, lcF_eq, bind_ok, bind_stuck, bind_ex, List.set_cons_zero, List.set_cons_succ, List.getElem?_cons_zero, List.getElem?_cons_succ, if_true, if_false, Bool.false_eq_true, reduceIte, part_0, part_1, sl_l, sl_t, nonD, Bool.not_true, Bool.not_false, Bool.and_true, Bool.true_and, Bool.and_false, Bool.false_and, Bool.or_true, Bool.true_or, Bool.or_false, Bool.false_or, Nat.reduceAdd, Int.cast_ofNat_Int, Int.reduceBEq, beq_self_eq_true, Int.reduceToNat, Int.reduceMul, Int.reduceAdd, Int.reduceSub, Int.reduceLT, Int.reduceLE, decide_true, decide_false, Int.reduceFMod, Int.reduceFDiv, Int.reduceNeg, Int.neg_neg, Int.zero_add, Int.add_zero, line_lt, small_i, it_rng1, it_rng2, eq_self, for_nil, for_cons, forK_nx, forK_ct, forK_rt, lc_nil, lc_cons, lcK_some, lcK_none, rng_3, rng_4, run_whole, run_cell, run_near, vals_nil, vals_cons, vals_map, allI_nil, allI_cons, allI_map, allI_app, vals_app, run_divl, run_divt, run_ldivl, run_ldivt, run_euclid, ints_all, List.length_cons, List.length_nil, List.length_map, List.length_append, List.cons_append, List.nil_append, List.length_set, List.length_reverse, go_nx, go_ct, ret_ok, run_mirrored, run_qnumber, app_ok, ix_q0, ix_q1, ix_q2, ix_q3, run_qsame, rng_0, rng_1, rng_2, turn_b, Q.vs_len, isi_q, len_q, seq_q, ne_q, eq_q, ne_q0, ne_li, eq_li, ix_v0, ix_v1, ix_v2, ix_m0, ix_m1, ix_m2, ix_n0, ix_n1, seq_v, seq_m, isi_v, isi_m, isi_n, len_v, len_m, len_n, list_v, bind_v, bind_m, bind_n, bind_q, add_vv, add_tv])
theorem div_all {xs : List Int} {x0 : Int} (h0 : x0 ∈ xs) (hx : x0 ≠ 0) : gcdL (xs.map (· / ((gcdL xs : Nat) : Int))) = 1 ∧ ∀ x ∈ xs, x = ((gcdL xs : Nat) : Int) * (x / ((gcdL xs : Nat) : Int)) := by
  have hg : 0 < gcdL xs := gcdL_pos h0 hx
  have e : ∀ x ∈ xs, x = ((gcdL xs : Nat) : Int) * (x / ((gcdL xs : Nat) : Int)) := fun x hx => (Int.mul_ediv_cancel' (gcdL_dvd hx)).symm
  refine ⟨?_, e⟩
  have e2 : (xs.map (· / ((gcdL xs : Nat) : Int))).map (((gcdL xs : Nat) : Int) * ·) = xs := by
    rw [List.map_map]
    conv => rhs; rw [← List.map_id xs]
    exact List.map_congr_left fun x hx => (e x hx).symm
  have := gcdL_scale (xs := xs.map (· / ((gcdL xs : Nat) : Int))) (m := ((gcdL xs : Nat) : Int))
  rw [e2, Int.natAbs_natCast] at this
  exact (Nat.mul_left_cancel hg (by rw [Nat.mul_one]; exact this)).symm
theorem gcdL_same {xs ys : List Int} (h : ∀ x, x ∈ xs ↔ x ∈ ys) : gcdL xs = gcdL ys :=
  gcdL_eq (fun x hx => gcdL_dvd ((h x).mp hx)) (fun e he => dvd_gcdL fun x hx => he x ((h x).mpr hx))
structure Lw (T L : Tn) (s : Int) : Prop where
  e : T = Tn.sc s L
  s : 0 < s
  g : gcdL L.all = 1
theorem Tn.g_pos {T : Tn} (h : 0 < T.n) : 0 < T.g := by
  have := gcdL_pos (xs := T.all) (x := T.n) (by simp [Tn.all]) (by omega)
  unfold Tn.g; omega
theorem Tn.g_bd {T : Tn} {k : Nat} (h : 0 < T.n) (b : T.n.natAbs < 2 ^ k) : T.g.natAbs < 2 ^ k := gcdL_bd (xs := T.all) (x := T.n) (by simp [Tn.all]) (by omega) b
theorem Tn.lw {T : Tn} (h : 0 < T.n) : Lw T T.low T.g := by
  obtain ⟨h1, h2⟩ := div_all (xs := T.all) (x0 := T.n) (by simp [Tn.all]) (by omega)
  refine ⟨?_, Tn.g_pos h, h1⟩
  obtain ⟨⟨px, py, pz⟩, ⟨qx, qy, qz⟩, ⟨rx, ry, rz⟩, n⟩ := T
  simp only [Tn.sc, Tn.low, V3.sc, V3.div, Tn.mk.injEq, V3.mk.injEq, Tn.g]
  simp only [Tn.all, List.mem_cons, List.not_mem_nil, or_false, forall_eq_or_imp, forall_eq] at h2 ⊢
  exact ⟨⟨h2.1, h2.2.1, h2.2.2.1⟩, ⟨h2.2.2.2.1, h2.2.2.2.2.1, h2.2.2.2.2.2.1⟩, ⟨h2.2.2.2.2.2.2.1, h2.2.2.2.2.2.2.2.1, h2.2.2.2.2.2.2.2.2.1⟩, h2.2.2.2.2.2.2.2.2.2⟩
theorem run_llower {T : Tn} {k : Nat} (h : 0 < T.n) (b : T.n.natAbs < 2 ^ k) (hk : k ≤ 9000) : d_llower [m3 T, .int T.n] = .ok (.val (tn T.low)) := by
  have hg := Tn.g_pos h
  have hg0 : T.g ≠ 0 := by omega
  have hb := bd_mono (Tn.g_bd h b) hk
  refine o_llower ?_
  unfold b_llower
  walk_at "ev"
  rw [show ((gcdL [T.p.x, T.p.y, T.p.z, T.q.x, T.q.y, T.q.z, T.r.x, T.r.y, T.r.z, T.n] : Nat) : Int) = T.g from rfl]
  walk_at "ev"
  simp only [fdiv_pos hg]
  rfl
theorem run_lowest {T : Tn} {k : Nat} (h : 0 < T.n) (b : T.n.natAbs < 2 ^ k) (hk : k ≤ 9000) : d_lowest [m3 T, .int T.n] = .ok (.val (tn T.low)) := by
  have hg := Tn.g_pos h
  have hg0 : T.g ≠ 0 := by omega
  have hb := bd_mono (Tn.g_bd h b) hk
  refine o_lowest ?_
  unfold b_lowest
  walk_at "ev"
  rw [gcdL_same (ys := T.all) (fun x => by simp only [Tn.all, List.mem_cons, List.not_mem_nil, or_false]; constructor <;> (intro h; omega))]
  rw [show ((gcdL T.all : Nat) : Int) = T.g from rfl]
  walk_at "ev"
  simp only [fdiv_pos hg]
  rfl
def Tn.ofQ (q : Q) : Tn := ⟨⟨q.a * q.a + q.b * q.b - q.c * q.c - q.d * q.d, 2 * (q.b * q.c - q.a * q.d), 2 * (q.b * q.d + q.a * q.c)⟩,
  ⟨2 * (q.b * q.c + q.a * q.d), q.a * q.a - q.b * q.b + q.c * q.c - q.d * q.d, 2 * (q.c * q.d - q.a * q.b)⟩,
  ⟨2 * (q.b * q.d - q.a * q.c), 2 * (q.c * q.d + q.a * q.b), q.a * q.a - q.b * q.b - q.c * q.c + q.d * q.d⟩, q.size⟩
def Tn.of (q : Q) : Tn := (Tn.ofQ q).low
theorem sq_nn (a : Int) : 0 ≤ a * a := by
  rcases Int.lt_or_le a 0 with h | h
  · exact Int.le_of_lt (Int.mul_pos_of_neg_of_neg h h)
  · exact Int.mul_nonneg h h
theorem sq_pos {a : Int} (h : a ≠ 0) : 0 < a * a := by
  rcases Int.lt_or_gt_of_ne h with h | h
  · exact Int.mul_pos_of_neg_of_neg h h
  · exact Int.mul_pos h h
theorem Q.size_pos {q : Q} (h : q ≠ Q.zero) : 0 < q.size := by
  have h1 := sq_nn q.a; have h2 := sq_nn q.b; have h3 := sq_nn q.c; have h4 := sq_nn q.d
  unfold Q.size
  have hl := Q.lead_ne h
  have hm := Q.lead_mem q
  have h5 := sq_pos hl
  simp only [Q.vs, List.mem_cons, List.not_mem_nil, or_false] at hm
  rcases hm with e | e | e | e <;> rw [e] at h5 <;> omega
theorem run_ltable {q : Q} {k : Nat} (h : q ≠ Q.zero) (b : q.ok k) (hk : k ≤ 4000) : d_ltable [q4 q] = .ok (.val (tn (Tn.of q))) := by
  have hs := Q.size_pos h
  have hb := Q.bd_size b
  have f := run_llower (T := Tn.ofQ q) hs hb (by omega)
  obtain ⟨b1, b2, b3, b4⟩ := b
  refine o_ltable ?_
  unfold b_ltable
  walk_at "ev"
  rw [show d_llower [PyData.tuple [.tuple [.int (q.a * q.a + q.b * q.b - q.c * q.c - q.d * q.d), .int (2 * (q.b * q.c - q.a * q.d)), .int (2 * (q.b * q.d + q.a * q.c))], .tuple [.int (2 * (q.b * q.c + q.a * q.d)), .int (q.a * q.a - q.b * q.b + q.c * q.c - q.d * q.d), .int (2 * (q.c * q.d - q.a * q.b))], .tuple [.int (2 * (q.b * q.d - q.a * q.c)), .int (2 * (q.c * q.d + q.a * q.b)), .int (q.a * q.a - q.b * q.b - q.c * q.c + q.d * q.d)]], .int (q.a * q.a + q.b * q.b + q.c * q.c + q.d * q.d)] = _ from f]
  walk_at "ev"
  rfl
theorem run_turn_of {q : Q} {k : Nat} (h : q ≠ Q.zero) (b : q.ok k) (hk : k ≤ 4000) : d_turn_of [q4 q] = .ok (.val (tn (Tn.of q))) := by
  have hs := Q.size_pos h
  have hb := Q.bd_size b
  have f := run_lowest (T := Tn.ofQ q) hs hb (by omega)
  have f2 := run_size b (by omega)
  have f3 : (q.size == 0) = false := by simp; omega
  obtain ⟨b1, b2, b3, b4⟩ := b
  refine o_turn_of ?_
  unfold b_turn_of
  repeat (first | walk_at "ev" | rw [f2] | rw [f3])
  have t : ∀ x y : Int, 2 * x * y = 2 * (x * y) := fun x y => Int.mul_assoc 2 x y
  simp only [t, ← Int.mul_sub, ← Int.mul_add]
  rw [show d_lowest [PyData.tuple [.tuple [.int (q.a * q.a + q.b * q.b - q.c * q.c - q.d * q.d), .int (2 * (q.b * q.c - q.a * q.d)), .int (2 * (q.b * q.d + q.a * q.c))], .tuple [.int (2 * (q.b * q.c + q.a * q.d)), .int (q.a * q.a - q.b * q.b + q.c * q.c - q.d * q.d), .int (2 * (q.c * q.d - q.a * q.b))], .tuple [.int (2 * (q.b * q.d - q.a * q.c)), .int (2 * (q.c * q.d + q.a * q.b)), .int (q.a * q.a - q.b * q.b - q.c * q.c + q.d * q.d)]], .int q.size] = _ from f]
  walk_at "ev"
  rfl
structure Up (T : Tn) : Prop where
  n : 0 < T.n
  pp : T.p.dot T.p = T.n * T.n
  qq : T.q.dot T.q = T.n * T.n
  rr : T.r.dot T.r = T.n * T.n
  pq : T.p.dot T.q = 0
  pr : T.p.dot T.r = 0
  qr : T.q.dot T.r = 0
  det : T.p.x * (T.q.y * T.r.z - T.q.z * T.r.y) - T.p.y * (T.q.x * T.r.z - T.q.z * T.r.x) + T.p.z * (T.q.x * T.r.y - T.q.y * T.r.x) = T.n * T.n * T.n
theorem Up.ofQ {q : Q} (h : q ≠ Q.zero) : Up (Tn.ofQ q) := by
  refine ⟨Q.size_pos h, ?_, ?_, ?_, ?_, ?_, ?_, ?_⟩ <;> simp only [Tn.ofQ, V3.dot, Q.size] <;> grind
theorem Lw.n {T L : Tn} {s : Int} (h : Lw T L s) (k : 0 < T.n) : 0 < L.n := by
  have e : T.n = s * L.n := congrArg Tn.n h.e
  rcases Int.lt_or_le 0 L.n with z | z
  · exact z
  · have := Int.mul_nonpos_of_nonneg_of_nonpos (Int.le_of_lt h.s) z
    omega
theorem dot_sc (s : Int) (v w : V3) : (V3.sc s v).dot (V3.sc s w) = s * s * v.dot w := by simp only [V3.sc, V3.dot]; grind
def V3.det (p q r : V3) : Int := p.x * (q.y * r.z - q.z * r.y) - p.y * (q.x * r.z - q.z * r.x) + p.z * (q.x * r.y - q.y * r.x)
theorem det_sc (s : Int) (p q r : V3) : V3.det (V3.sc s p) (V3.sc s q) (V3.sc s r) = s * s * s * V3.det p q r := by simp only [V3.sc, V3.det]; grind
theorem Lw.up {T L : Tn} {s : Int} (h : Lw T L s) (k : Up T) : Up L := by
  have hs := h.s
  have h2 : s * s ≠ 0 := Int.mul_ne_zero (by omega) (by omega)
  have h3 : s * s * s ≠ 0 := Int.mul_ne_zero h2 (by omega)
  have ep : T.p = V3.sc s L.p := congrArg Tn.p h.e
  have eq : T.q = V3.sc s L.q := congrArg Tn.q h.e
  have er : T.r = V3.sc s L.r := congrArg Tn.r h.e
  have en : T.n = s * L.n := congrArg Tn.n h.e
  have e2 : T.n * T.n = s * s * (L.n * L.n) := by rw [en]; grind
  have e3 : T.n * T.n * T.n = s * s * s * (L.n * L.n * L.n) := by rw [en]; grind
  have f := fun {a b : Int} (h : s * s * a = s * s * b) => Int.eq_of_mul_eq_mul_left h2 h
  have z : (0 : Int) = s * s * 0 := (Int.mul_zero _).symm
  refine ⟨h.n k.n, f ?_, f ?_, f ?_, f ?_, f ?_, f ?_, Int.eq_of_mul_eq_mul_left h3 ?_⟩
  · rw [← dot_sc, ← ep, ← e2]; exact k.pp
  · rw [← dot_sc, ← eq, ← e2]; exact k.qq
  · rw [← dot_sc, ← er, ← e2]; exact k.rr
  · rw [← dot_sc, ← ep, ← eq, ← z]; exact k.pq
  · rw [← dot_sc, ← ep, ← er, ← z]; exact k.pr
  · rw [← dot_sc, ← eq, ← er, ← z]; exact k.qr
  · rw [← e3]
    refine Eq.trans (det_sc s L.p L.q L.r).symm ?_
    rw [← ep, ← eq, ← er]; exact k.det
structure IsT (T : Tn) : Prop where
  u : Up T
  g : gcdL T.all = 1
theorem IsT.of {q : Q} (h : q ≠ Q.zero) : IsT (Tn.of q) := ⟨(Tn.lw (Q.size_pos h)).up (Up.ofQ h), (Tn.lw (Q.size_pos h)).g⟩
theorem Lw.uniq {T L L' : Tn} {s s' : Int} (h : Lw T L s) (h' : Lw T L' s') : L = L' ∧ s = s' := by
  have g1 : ∀ {T L : Tn} {s : Int}, Lw T L s → gcdL T.all = s.natAbs := fun {T L s} h => by
    have e : T.all = L.all.map (s * ·) := by rw [h.e]; rfl
    rw [e, gcdL_scale, h.g, Nat.mul_one]
  have e : s = s' := by
    have := g1 h; have := g1 h'; have := h.s; have := h'.s; omega
  subst e
  refine ⟨?_, rfl⟩
  have q := h.e.symm.trans h'.e
  have hs : s ≠ 0 := by have := h.s; omega
  obtain ⟨⟨px, py, pz⟩, ⟨qx, qy, qz⟩, ⟨rx, ry, rz⟩, n⟩ := L
  obtain ⟨⟨px', py', pz'⟩, ⟨qx', qy', qz'⟩, ⟨rx', ry', rz'⟩, n'⟩ := L'
  simp only [Tn.sc, V3.sc, Tn.mk.injEq, V3.mk.injEq, Int.mul_eq_mul_left_iff hs] at q ⊢
  exact q
theorem Tn.of_sc {q : Q} {m : Int} (h : q ≠ Q.zero) (hm : m ≠ 0) : Tn.of (Q.sc m q) = Tn.of q := by
  have hz : Q.sc m q ≠ Q.zero := fun e => h (Q.sc_inj hm (e.trans (by simp [Q.sc, Q.zero])))
  have h1 := Tn.lw (T := Tn.ofQ q) (Q.size_pos h)
  have h2 := Tn.lw (T := Tn.ofQ (Q.sc m q)) (Q.size_pos hz)
  have e : Tn.ofQ (Q.sc m q) = Tn.sc (m * m) (Tn.ofQ q) := by
    simp only [Tn.ofQ, Tn.sc, V3.sc, Q.sc, Q.size, Tn.mk.injEq, V3.mk.injEq]; grind
  have h3 : Lw (Tn.ofQ (Q.sc m q)) (Tn.ofQ q).low (m * m * (Tn.ofQ q).g) := by
    refine ⟨?_, Int.mul_pos (sq_pos hm) h1.s, h1.g⟩
    conv => lhs; rw [e, h1.e]
    simp only [Tn.sc, V3.sc, Int.mul_assoc]
  exact (h2.uniq h3).1
theorem Q.vs_def (q : Q) : q.vs = [q.a, q.b, q.c, q.d] := rfl
theorem run_moved {T : Tn} {v : V3} {k m : Nat} (hn : 0 < T.n) (h : T.ok k) (b : v.ok m) (hk : k + m ≤ 8000) :
    ∃ u : Q, d_moved [tn T, t3 v] = .ok (.val (q4 u)) ∧ ∃ s : Int, 0 < s ∧ T.p.dot v = s * u.a ∧ T.q.dot v = s * u.b ∧ T.r.dot v = s * u.c ∧ T.n = s * u.d ∧ gcdL u.vs = 1 ∧ 0 < u.d := by
  obtain ⟨⟨p1, p2, p3⟩, ⟨q1, q2, q3⟩, ⟨r1, r2, r3⟩, n1⟩ := h
  obtain ⟨v1, v2, v3⟩ := b
  obtain ⟨g1, g2⟩ := div_all (xs := [T.p.dot v, T.q.dot v, T.r.dot v, T.n]) (x0 := T.n) (by simp) (by omega)
  have gb := gcdL_bd (xs := [T.p.dot v, T.q.dot v, T.r.dot v, T.n]) (x := T.n) (by simp) (by omega) (bd_mono n1 (show k ≤ 9000 by omega))
  have gp := gcdL_pos (xs := [T.p.dot v, T.q.dot v, T.r.dot v, T.n]) (x := T.n) (by simp) (by omega)
  have f : ∀ {w : V3}, w.ok k → d_times [t3 w, t3 v] = .ok (.val (.int (w.dot v))) := fun {w} ⟨w1, w2, w3⟩ => by
    refine o_times ?_
    unfold b_times
    walk_at "ev"
    rfl
  have f1 := f (w := T.p) ⟨p1, p2, p3⟩
  have f2 := f (w := T.q) ⟨q1, q2, q3⟩
  have f3 := f (w := T.r) ⟨r1, r2, r3⟩
  generalize hg : ((gcdL [T.p.dot v, T.q.dot v, T.r.dot v, T.n] : Nat) : Int) = g at *
  have gp' : 0 < g := by omega
  have g0 : g ≠ 0 := by omega
  simp only [List.mem_cons, List.not_mem_nil, or_false, forall_eq_or_imp, forall_eq] at g2
  obtain ⟨e1, e2, e3, e4⟩ := g2
  refine ⟨⟨T.p.dot v / g, T.q.dot v / g, T.r.dot v / g, T.n / g⟩, o_moved ?_, g, gp', e1, e2, e3, e4, g1, ?_⟩
  · unfold b_moved
    repeat (first | walk_at "ev" | rw [f1] | rw [f2] | rw [f3] | rw [hg])
    simp only [fdiv_pos gp']
    rfl
  · rcases Int.lt_or_le 0 (T.n / g) with z | z
    · exact z
    · have := Int.mul_nonpos_of_nonneg_of_nonpos (Int.le_of_lt gp') z
      omega
theorem set4_0 {a b c d v : D} : setAt [a, b, c, d] 0 v = .ok [v, b, c, d] := rfl
theorem set4_1 {a b c d v : D} : setAt [a, b, c, d] 1 v = .ok [a, v, c, d] := rfl
theorem set4_2 {a b c d v : D} : setAt [a, b, c, d] 2 v = .ok [a, b, v, d] := rfl
theorem set4_3 {a b c d v : D} : setAt [a, b, c, d] 3 v = .ok [a, b, c, v] := rfl
theorem set3_0 {a b c v : D} : setAt [a, b, c] 0 v = .ok [v, b, c] := rfl
theorem set3_1 {a b c v : D} : setAt [a, b, c] 1 v = .ok [a, v, c] := rfl
theorem set3_2 {a b c v : D} : setAt [a, b, c] 2 v = .ok [a, b, v] := rfl
local macro_rules | `(tactic| walk_at "ev") => `(tactic| simp -implicitDefEqProofs (disch := walk_at "ok") only [exL_nil, exL_cons, next_nx, next_rt, next_ct, next_ex, S_asg, S_set, S_put, S_app, S_ite, S_for, S_whl, S_ret, S_cont, S_pass, S_frz, S_raise, put_own, putK_i, app_own, frz_nil, frz_cons, frzK_own, frzK_val, E_var, E_con, E_glob, E_tup, E_lst, E_rep, E_bop, E_neg, E_not, E_and, E_or, E_cmp, E_ix, E_sl, E_bi, E_isi, E_call, E_lc, lcO_ok, L_nil, L_cons, Bs_nil, Bs_cons, bor_var, bor_con, bor_glob, bor_tup, bor_lst, bor_rep, bor_bop, bor_neg, bor_not, bor_and, bor_or, bor_cmp, bor_ix, bor_sl, bor_bi, bor_isi, bor_call, bor_lc, lookE_val, lookB_val, lookB_own, valM_ok, valM_stuck, valM_ex, d_val, d_own, negD_i, notD_b, andD_t, andD_f, orD_t, orD_f, andD_b, orD_b, add_ii, sub_ii, mul_ii', fdiv_ii', mod_ii', pow10_9, pow10_10, pow10_12, pow10_15, pow10_20, pow10_30, pow10_60, pow10_120, add_ll, add_tt, lt_ii, le_ii, gt_ii, ge_ii, eq_ii, ne_ii, isN_d, notN_d, isB_bb, notB_bb, ix_l, ix_t, ixO_some, at_0, at_1, at_2, at_3, iteD_t, iteD_f, iteD_b, ret_var, retV_b, end_rt, end_nx, end_ex, ret_con, ret_glob, ret_tup, ret_lst, ret_rep, ret_bop, ret_neg, ret_not, ret_and, ret_or, ret_cmp, ret_ix, ret_sl, ret_bi, ret_isi, ret_call, ret_lc, isi_ii, isi_ib, isi_it, isi_il, isi_in, isi_bi, isi_bb, isi_tt, isi_tl, isi_ti, isi_tn, isi_ll, isi_lt, bi_abs, bi_len_l, bi_len_t, bi_int_i, bi_int_b, bi_list_l, bi_list_t, bi_tuple_l, bi_tuple_t, bi_sum, bi_all, sumO_some, allO_some, bi_min2, bi_max2, phi_0, phi_1, phi_2, phi_s, bindT_nm, bindT_tp, bindT_tl, bindTs_nil, bindTs_cons, it_seq, it_zip_t, it_zip_l, it_rev, itL, itT, turn_0, turn_t, turn_f, wipe_nil, wipe_cons, forF_eq, whlC_eq, whlF_eq, lcF_eq, bind_ok, bind_stuck, bind_ex, List.set_cons_zero, List.set_cons_succ, List.getElem?_cons_zero, List.getElem?_cons_succ, if_true, if_false, Bool.false_eq_true, reduceIte, part_0, part_1, sl_l, sl_t, nonD, Bool.not_true, Bool.not_false, Bool.and_true, Bool.true_and, Bool.and_false, Bool.false_and, Bool.or_true, Bool.true_or, Bool.or_false, Bool.false_or, Nat.reduceAdd, Int.cast_ofNat_Int, Int.reduceBEq, beq_self_eq_true, Int.reduceToNat, Int.reduceMul, Int.reduceAdd, Int.reduceSub, Int.reduceLT, Int.reduceLE, decide_true, decide_false, Int.reduceFMod, Int.reduceFDiv, Int.reduceNeg, Int.neg_neg, Int.zero_add, Int.add_zero, line_lt, small_i, it_rng1, it_rng2, eq_self, for_nil, for_cons, forK_nx, forK_ct, forK_rt, lc_nil, lc_cons, lcK_some, lcK_none, rng_3, rng_4, run_whole, run_cell, run_near, vals_nil, vals_cons, vals_map, allI_nil, allI_cons, allI_map, allI_app, vals_app, run_divl, run_divt, run_ldivl, run_ldivt, run_euclid, ints_all, List.length_cons, List.length_nil, List.length_map, List.length_append, List.cons_append, List.nil_append, List.length_set, List.length_reverse, go_nx, go_ct, ret_ok, run_mirrored, run_qnumber, app_ok, ix_q0, ix_q1, ix_q2, ix_q3, run_qsame, rng_0, rng_1, rng_2, turn_b, Q.vs_len, isi_q, len_q, seq_q, ne_q, eq_q, ne_q0, ne_li, eq_li, ix_v0, ix_v1, ix_v2, ix_m0, ix_m1, ix_m2, ix_n0, ix_n1, seq_v, seq_m, isi_v, isi_m, isi_n, len_v, len_m, len_n, list_v, bind_v, bind_m, bind_n, bind_q, add_vv, add_tv, set4_0, set4_1, set4_2, set4_3, set3_0, set3_1, set3_2])
theorem eq4 {a b c d : Int} : cmpD .eq (.list [.int a, .int b, .int c, .int d]) (.list [.int 0, .int 0, .int 0, .int 0]) = .ok (.val (.bool (decide ([a, b, c, d] = [0, 0, 0, 0])))) := eq_li (xs := [a, b, c, d]) (ys := [0, 0, 0, 0])
theorem run_lquad {ns : List Int} {m : Int} (h : ns.length ≤ 100) (h0 : 0 ≤ m) (h1 : m ≤ 10 ^ 30) : ∃ q : Q, d_lquad [.list (ns.map PyData.int), .int m] = .ok (.val (q4 q)) ∧ q ≠ Q.zero ∧ q.ok 110 := by
  have hs : ∀ (i : Nat) (a y : Int), i < 100 → a.natAbs ≤ i * m.natAbs → y.natAbs ≤ m.natAbs → (a + y).natAbs ≤ (i + 1) * m.natAbs := fun i a y _ h1 h2 => by
    rw [Nat.add_mul, Nat.one_mul]; omega
  have up : ∀ (i : Nat) (a : Int), a.natAbs ≤ i * m.natAbs → a.natAbs ≤ (i + 1) * m.natAbs := fun i a h => by rw [Nat.add_mul]; omega
  have key : Ret (fun b => ∃ q : Q, b = .val (q4 q) ∧ q ≠ Q.zero ∧ q.ok 110) (d_lquad [.list (ns.map PyData.int), .int m]) := by
    rw [o_lquad rfl]
    unfold b_lquad
    walk_at "ev"
    refine for_ret (fun i ρ => ∃ (a b c d : Int) (z : Option B), ρ = [some (.val (.list (ns.map PyData.int))), some (.val (.int m)), some (.own [.int a, .int b, .int c, .int d]), z] ∧ a.natAbs ≤ i * m.natAbs ∧ b.natAbs ≤ i * m.natAbs ∧ c.natAbs ≤ i * m.natAbs ∧ d.natAbs ≤ i * m.natAbs) ⟨0, 0, 0, 0, none, rfl, by simp⟩ (fun i w ρ hd ⟨a, b, c, d, z, e, ha, hb, hc, hd'⟩ => ?_) (fun ρ1 ⟨a, b, c, d, z, e, ha, hb, hc, hd'⟩ => ?_)
    · obtain ⟨hi, rfl⟩ := rngD_get _ _ _ _ _ hd
      subst e
      have hi2 : i < ns.length := by omega
      obtain ⟨x, hx, e1⟩ := at_mem (g := PyData.int) (xs := ns) (k := 0 + (i : Int) * 1) (by omega) (by omega)
      have hy := near_le (c := x) h0
      rw [Int.zero_add, Int.mul_one] at e1 ⊢
      have em := fmod_pos (i := (i : Int)) (j := 4) (by decide)
      have hm : (i : Int) % 4 = 0 ∨ (i : Int) % 4 = 1 ∨ (i : Int) % 4 = 2 ∨ (i : Int) % 4 = 3 := by omega
      have fn := run_near (c := x) h0 (show m ≤ 10 ^ 120 by omega)
      rcases hm with hm | hm | hm | hm
      · repeat (first | walk_at "ev" | rw [em, hm] | rw [e1] | rw [fn])
        exact ⟨_, _, _, _, _, rfl, hs i a _ (by omega) ha hy, up i b hb, up i c hc, up i d hd'⟩
      · repeat (first | walk_at "ev" | rw [em, hm] | rw [e1] | rw [fn])
        exact ⟨_, _, _, _, _, rfl, up i a ha, hs i b _ (by omega) hb hy, up i c hc, up i d hd'⟩
      · repeat (first | walk_at "ev" | rw [em, hm] | rw [e1] | rw [fn])
        exact ⟨_, _, _, _, _, rfl, up i a ha, up i b hb, hs i c _ (by omega) hc hy, up i d hd'⟩
      · repeat (first | walk_at "ev" | rw [em, hm] | rw [e1] | rw [fn])
        exact ⟨_, _, _, _, _, rfl, up i a ha, up i b hb, up i c hc, hs i d _ (by omega) hd' hy⟩
    · subst e
      have hlen : (rngD 0 1 (ns.length : Int).toNat).length * m.natAbs ≤ 100 * 10 ^ 30 := by
        rw [rngD_len, Int.toNat_natCast]
        exact Nat.mul_le_mul h (by omega)
      have bk : ∀ x : Int, x.natAbs ≤ (rngD 0 1 (ns.length : Int).toNat).length * m.natAbs → x.natAbs < 2 ^ 110 := fun x hx => by omega
      walk_at "ev"
      rw [eq4]
      by_cases hz : [a, b, c, d] = [0, 0, 0, 0]
      · rw [decide_eq_true hz]
        simp only [List.cons.injEq, and_true] at hz
        obtain ⟨rfl, rfl, rfl, rfl⟩ := hz
        walk_at "ev"
        exact ⟨⟨1, 0, 0, 0⟩, rfl, by decide, by decide, by decide, by decide, by decide⟩
      · rw [decide_eq_false hz]
        walk_at "ev"
        exact ⟨⟨a, b, c, d⟩, rfl, fun e => hz (by cases e; rfl), bk a ha, bk b hb, bk c hc, bk d hd'⟩
  obtain ⟨b, e, q, rfl, h2, h3⟩ := key
  exact ⟨q, e, h2, h3⟩
theorem run_lform {T : Tn} : d_lform [tn T] = .ok (.val (.bool true)) := by
  refine o_lform ?_
  unfold b_lform
  have f : boolsD [.bool true, .bool true, .bool true] = some [true, true, true] := rfl
  repeat (first | walk_at "ev" | rw [f] | rw [show [true, true, true].all id = true from rfl])
theorem V3.dot_comm (v w : V3) : v.dot w = w.dot v := by simp only [V3.dot]; grind
theorem run_listurn {T : Tn} {k : Nat} (h : IsT T) (b : T.ok k) (hk : k ≤ 200000) : d_listurn [tn T] = .ok (.val (.bool true)) := by
  obtain ⟨⟨p1, p2, p3⟩, ⟨q1, q2, q3⟩, ⟨r1, r2, r3⟩, n1⟩ := b
  have c0 : decide (T.n < 1) = false := decide_eq_false (by have := h.u.n; omega)
  have g : gcdL [T.p.x, T.p.y, T.p.z, T.q.x, T.q.y, T.q.z, T.r.x, T.r.y, T.r.z, T.n] = 1 := h.g
  refine o_listurn ?_
  unfold b_listurn
  have t : ∀ {v w : V3} {e : Int}, v.dot w = e → ([v.x * w.x, v.y * w.y, v.z * w.z].sum == e) = true := fun {v w e} h => by
    rw [beq_iff_eq, ← h]
    simp only [List.sum_cons, List.sum_nil, V3.dot]; omega
  have u := h.u
  have t1 := t (e := T.n * T.n * 1) (u.pp.trans (Int.mul_one _).symm)
  have t2 := t (e := T.n * T.n * 0) (u.pq.trans (Int.mul_zero _).symm)
  have t3' := t (e := T.n * T.n * 0) (u.pr.trans (Int.mul_zero _).symm)
  have t4 := t (e := T.n * T.n * 0) ((V3.dot_comm _ _).trans (u.pq.trans (Int.mul_zero _).symm))
  have t5 := t (e := T.n * T.n * 1) (u.qq.trans (Int.mul_one _).symm)
  have t6 := t (e := T.n * T.n * 0) (u.qr.trans (Int.mul_zero _).symm)
  have t7 := t (e := T.n * T.n * 0) ((V3.dot_comm _ _).trans (u.pr.trans (Int.mul_zero _).symm))
  have t8 := t (e := T.n * T.n * 0) ((V3.dot_comm _ _).trans (u.qr.trans (Int.mul_zero _).symm))
  have t9 := t (e := T.n * T.n * 1) (u.rr.trans (Int.mul_one _).symm)
  have t10 : ((T.p.x * (T.q.y * T.r.z - T.q.z * T.r.y) - T.p.y * (T.q.x * T.r.z - T.q.z * T.r.x) + T.p.z * (T.q.x * T.r.y - T.q.y * T.r.x)) == T.n * T.n * T.n) = true := by rw [beq_iff_eq]; exact u.det
  repeat (first | walk_at "ev" | rw [c0] | rw [g] | rw [t1] | rw [t2] | rw [t3'] | rw [t4] | rw [t5] | rw [t6] | rw [t7] | rw [t8] | rw [t9] | rw [t10])
theorem sc_bd {s x : Int} {n : Nat} (hs : s ≠ 0) (hx : (s * x).natAbs < 2 ^ n) : x.natAbs < 2 ^ n := by
  rw [Int.natAbs_mul] at hx
  have h1 : 0 < s.natAbs := by omega
  have := Nat.le_mul_of_pos_left x.natAbs h1
  omega
theorem dot_bd {v w : V3} {k m : Nat} (h : v.ok k) (b : w.ok m) : (v.dot w).natAbs < 2 ^ (k + m + 2) :=
  bd_mono (bd_add (bd_add (bd_mul h.1 b.1) (bd_mul h.2.1 b.2.1)) (bd_mul h.2.2 b.2.2)) (by omega)
theorem Tn.ok_ofQ {q : Q} {k : Nat} (b : q.ok k) : (Tn.ofQ q).ok (2 * k + 4) := by
  obtain ⟨b1, b2, b3, b4⟩ := id b
  have s2 : (2 : Int).natAbs < 2 ^ 2 := by decide
  have c1 := bd_mul b1 b1; have c2 := bd_mul b2 b2; have c3 := bd_mul b3 b3; have c4 := bd_mul b4 b4
  have d1 := bd_mul b2 b3; have d2 := bd_mul b1 b4; have d3 := bd_mul b2 b4; have d4 := bd_mul b1 b3; have d5 := bd_mul b3 b4; have d6 := bd_mul b1 b2
  refine ⟨⟨bd_mono (bd_sub (bd_sub (bd_add c1 c2) c3) c4) ?_, bd_mono (bd_mul s2 (bd_sub d1 d2)) ?_, bd_mono (bd_mul s2 (bd_add d3 d4)) ?_⟩,
    ⟨bd_mono (bd_mul s2 (bd_add d1 d2)) ?_, bd_mono (bd_sub (bd_add (bd_sub c1 c2) c3) c4) ?_, bd_mono (bd_mul s2 (bd_sub d5 d6)) ?_⟩,
    ⟨bd_mono (bd_mul s2 (bd_sub d3 d4)) ?_, bd_mono (bd_mul s2 (bd_add d5 d6)) ?_, bd_mono (bd_add (bd_sub (bd_sub c1 c2) c3) c4) ?_⟩, bd_mono (Q.bd_size b) ?_⟩ <;> omega
theorem Lw.ok {T L : Tn} {s : Int} {k : Nat} (h : Lw T L s) (b : T.ok k) : L.ok k := by
  have hs : s ≠ 0 := by have := h.s; omega
  rw [h.e] at b
  obtain ⟨⟨p1, p2, p3⟩, ⟨q1, q2, q3⟩, ⟨r1, r2, r3⟩, n1⟩ := b
  exact ⟨⟨sc_bd hs p1, sc_bd hs p2, sc_bd hs p3⟩, ⟨sc_bd hs q1, sc_bd hs q2, sc_bd hs q3⟩, ⟨sc_bd hs r1, sc_bd hs r2, sc_bd hs r3⟩, sc_bd hs n1⟩
theorem Tn.ok_of {q : Q} {k : Nat} (h : q ≠ Q.zero) (b : q.ok k) : (Tn.of q).ok (2 * k + 4) := (Tn.lw (T := Tn.ofQ q) (Q.size_pos h)).ok (Tn.ok_ofQ b)
theorem menu {c : Int} : ∃ m : Int, ixD (.list [.int (10 ^ 30), .int 9]) (.int (c.fmod 2)) = .ok (.val (.int m)) ∧ 0 ≤ m ∧ m ≤ 10 ^ 30 := by
  have e := fmod_pos (i := c) (j := 2) (by decide)
  rcases (show c % 2 = 0 ∨ c % 2 = 1 by omega) with h | h
  · exact ⟨10 ^ 30, by rw [e, h, ix_l, at_0]; rfl, by decide, by decide⟩
  · exact ⟨9, by rw [e, h, ix_l, at_1]; rfl, by decide, by decide⟩
end Lb
namespace Lb
open PySem Tg
def b_mixed : List S :=
   [.ret (.bi .tuple [.lc (.bop .add (.bop .mul (.var 1) (.var 4)) (.bop .mul (.var 3) (.var 5))) (.tp [.nm 4, .nm 5]) .zip [.var 0, .var 2] [] [4, 5]])]
noncomputable def d_mixed : List D → M B := runF (phi []) 4 6 b_mixed
theorem o_mixed {x0 x1 x2 x3 : D} {r : M B} (h : endD (exL (phi []) b_mixed [some (.val x0), some (.val x1), some (.val x2), some (.val x3), none, none]) = r) : d_mixed [x0, x1, x2, x3] = r := run_of rfl rfl h
def b_counts : List S :=
   [.set 2 (.lst []),
    .asg (.nm 3) (.bi .tuple [.var 1]),
    .for (.nm 4) .rng [.con (.int 3)] [.ite (.cmp .ne (.bop .mod (.ix (.var 3) (.var 4)) (.ix (.ix (.var 0) (.var 4)) (.var 4))) (.con (.int 0))) [.ret (.con .none)] [], .app 2 (.bop .fdiv (.ix (.var 3) (.var 4)) (.ix (.ix (.var 0) (.var 4)) (.var 4))), .asg (.nm 3) (.call 0 [.var 3, .con (.int 1), .ix (.var 0) (.var 4), .neg (.ix (.var 2) (.var 4))])],
    .ret (.bi .tuple [.var 2])]
noncomputable def d_counts : List D → M B := runF (phi [d_mixed]) 2 5 b_counts
theorem o_counts {x0 x1 : D} {r : M B} (h : endD (exL (phi [d_mixed]) b_counts [some (.val x0), some (.val x1), none, none, none]) = r) : d_counts [x0, x1] = r := run_of rfl rfl h
def b_ldown : List S :=
   [.asg (.nm 2) (.lst [.ix (.var 1) (.con (.int 0)), .ix (.var 1) (.con (.int 1)), .ix (.var 1) (.con (.int 2))]),
    .set 3 (.lst []),
    .for (.nm 4) .rng [.con (.int 3)] [.asg (.nm 5) (.bop .fdiv (.ix (.var 2) (.var 4)) (.ix (.ix (.var 0) (.var 4)) (.var 4))), .ite (.cmp .ne (.bop .mod (.ix (.var 2) (.var 4)) (.ix (.ix (.var 0) (.var 4)) (.var 4))) (.con (.int 0))) [.ret (.con .none)] [], .asg (.nm 2) (.lc (.bop .sub (.ix (.var 2) (.var 6)) (.bop .mul (.var 5) (.ix (.ix (.var 0) (.var 4)) (.var 6)))) (.nm 6) .rng [.con (.int 3)] [] [6]), .app 3 (.var 5)],
    .ret (.var 3)]
noncomputable def d_ldown : List D → M B := runF (phi []) 2 7 b_ldown
theorem o_ldown {x0 x1 : D} {r : M B} (h : endD (exL (phi []) b_ldown [some (.val x0), some (.val x1), none, none, none, none, none]) = r) : d_ldown [x0, x1] = r := run_of rfl rfl h
end Lb
namespace Lb
open PySem Tg
local macro_rules | `(tactic| walk_at "bd") => `(tactic| first | assumption | exact near_b3 | exact near_b6 | exact near_b9 | exact near_b999 | exact near_b1000 | exact near_b12 | exact near_b15 | exact near_b20 | exact near_b30 | exact near_b60 | exact bd_lit rfl (by decide) | (refine' bd_add ?h1 ?h2; (case h1 => walk_at "bd"); (case h2 => walk_at "bd")) | (refine' bd_sub ?h1 ?h2; (case h1 => walk_at "bd"); (case h2 => walk_at "bd")) | (refine' bd_mul ?h1 ?h2; (case h1 => walk_at "bd"); (case h2 => walk_at "bd")) | (refine' bd_neg ?_; walk_at "bd"))
local macro_rules | `(tactic| walk_at "ok") => `(tactic| first | assumption | decide | (refine line_lt ?_; (first | omega | (simp only [List.length_map, List.length_append, List.length_cons, List.length_nil, List.length_reverse]; omega))) | (refine' mulOk_of ?h1 ?h2 ?h3; (case h1 => walk_at "bd"); (case h2 => walk_at "bd"); (case h3 => first | decide | omega | (simp only [Nat.max_def]; first | decide | omega))) | (refine divOk_of ?_ ?_ <;> first | assumption | decide +kernel | omega) | omega | (simp -implicitDefEqProofs only [allI_nil, allI_cons, allI_map, allI_app, Bool.and_self, Bool.and_true]; done))
local macro_rules | `(tactic| walk_at "ev") => `(tactic| simp -implicitDefEqProofs (disch := walk_at "ok") only [exL_nil, exL_cons, next_nx, next_rt, next_ct, next_ex, S_asg, S_set, S_put, S_app, S_ite, S_for, S_whl, S_ret, S_cont, S_pass, S_frz, S_raise, put_own, putK_i, app_own, frz_nil, frz_cons, frzK_own, frzK_val, E_var, E_con, E_glob, E_tup, E_lst, E_rep, E_bop, E_neg, E_not, E_and, E_or, E_cmp, E_ix, E_sl, E_bi, E_isi, E_call, E_lc, lcO_ok, L_nil, L_cons, Bs_nil, Bs_cons, bor_var, bor_con, bor_glob, bor_tup, bor_lst, bor_rep, bor_bop, bor_neg, bor_not, bor_and, bor_or, bor_cmp, bor_ix, bor_sl, bor_bi, bor_isi, bor_call, bor_lc, lookE_val, lookB_val, lookB_own, valM_ok, valM_stuck, valM_ex, d_val, d_own, negD_i, notD_b, andD_t, andD_f, orD_t, orD_f, andD_b, orD_b, add_ii, sub_ii, mul_ii', fdiv_ii', mod_ii', pow10_9, pow10_10, pow10_12, pow10_15, pow10_20, pow10_30, pow10_60, pow10_120, add_ll, add_tt, lt_ii, le_ii, gt_ii, ge_ii, eq_ii, ne_ii, isN_d, notN_d, isB_bb, notB_bb, ix_l, ix_t, ixO_some, at_0, at_1, at_2, at_3, iteD_t, iteD_f, iteD_b, ret_var, retV_b, end_rt, end_nx, end_ex, ret_con, ret_glob, ret_tup, ret_lst, ret_rep, ret_bop, ret_neg, ret_not, ret_and, ret_or, ret_cmp, ret_ix, ret_sl, ret_bi, ret_isi, ret_call, ret_lc, isi_ii, isi_ib, isi_it, isi_il, isi_in, isi_bi, isi_bb, isi_tt, isi_tl, isi_ti, isi_tn, isi_ll, isi_lt, bi_abs, bi_len_l, bi_len_t, bi_int_i, bi_int_b, bi_list_l, bi_list_t, bi_tuple_l, bi_tuple_t, bi_sum, bi_all, sumO_some, allO_some, bi_min2, bi_max2, phi_0, phi_1, phi_2, phi_s, bindT_nm, bindT_tp, bindT_tl, bindTs_nil, bindTs_cons, it_seq, it_zip_t, it_zip_l, it_rev, itL, itT, turn_0, turn_t, turn_f, wipe_nil, wipe_cons, forF_eq, whlC_eq, whlF_eq, lcF_eq, bind_ok, bind_stuck, bind_ex, List.set_cons_zero, List.set_cons_succ, List.getElem?_cons_zero, List.getElem?_cons_succ, if_true, if_false, Bool.false_eq_true, reduceIte, part_0, part_1, sl_l, sl_t, nonD, Bool.not_true, Bool.not_false, Bool.and_true, Bool.true_and, Bool.and_false, Bool.false_and, Bool.or_true, Bool.true_or, Bool.or_false, Bool.false_or, Nat.reduceAdd, Int.cast_ofNat_Int, Int.reduceBEq, beq_self_eq_true, Int.reduceToNat, Int.reduceMul, Int.reduceAdd, Int.reduceSub, Int.reduceLT, Int.reduceLE, decide_true, decide_false, Int.reduceFMod, Int.reduceFDiv, Int.reduceNeg, Int.neg_neg, Int.zero_add, Int.add_zero, line_lt, small_i, it_rng1, it_rng2, eq_self, for_nil, for_cons, forK_nx, forK_ct, forK_rt, lc_nil, lc_cons, lcK_some, lcK_none, rng_3, rng_4, run_whole, run_cell, run_near, vals_nil, vals_cons, vals_map, allI_nil, allI_cons, allI_map, allI_app, vals_app, run_divl, run_divt, run_ldivl, run_ldivt, run_euclid, ints_all, List.length_cons, List.length_nil, List.length_map, List.length_append, List.cons_append, List.nil_append, List.length_set, List.length_reverse, go_nx, go_ct, ret_ok, run_mirrored, run_qnumber, app_ok, ix_q0, ix_q1, ix_q2, ix_q3, run_qsame, rng_0, rng_1, rng_2, turn_b, Q.vs_len, isi_q, len_q, seq_q, ne_q, eq_q, ne_q0, ne_li, eq_li, ix_v0, ix_v1, ix_v2, ix_m0, ix_m1, ix_m2, ix_n0, ix_n1, seq_v, seq_m, isi_v, isi_m, isi_n, len_v, len_m, len_n, list_v, bind_v, bind_m, bind_n, bind_q, add_vv, add_tv, set4_0, set4_1, set4_2, set4_3, set3_0, set3_1, set3_2])
theorem menu2 {c : Int} : ∃ m : Int, ixO (L2.atI [PyData.int (10 ^ 30), PyData.int 9] (c.fmod 2)) = .ok (.val (.int m)) ∧ 0 ≤ m ∧ m ≤ 10 ^ 30 := menu (c := c)
theorem all_3 : [true, true, true].all id = true := rfl
theorem all_4 : [true, true, true, true].all id = true := rfl
theorem bools_3 : boolsD [.bool true, .bool true, .bool true] = some [true, true, true] := rfl
theorem bools_4 : boolsD [.bool true, .bool true, .bool true, .bool true] = some [true, true, true, true] := rfl
local macro_rules | `(tactic| walk_at "ev") => `(tactic| simp -implicitDefEqProofs (disch := walk_at "ok") only [exL_nil, exL_cons, next_nx, next_rt, next_ct, next_ex, S_asg, S_set, S_put, S_app, S_ite, S_for, S_whl, S_ret, S_cont, S_pass, S_frz, S_raise, put_own, putK_i, app_own, frz_nil, frz_cons, frzK_own, frzK_val, E_var, E_con, E_glob, E_tup, E_lst, E_rep, E_bop, E_neg, E_not, E_and, E_or, E_cmp, E_ix, E_sl, E_bi, E_isi, E_call, E_lc, lcO_ok, L_nil, L_cons, Bs_nil, Bs_cons, bor_var, bor_con, bor_glob, bor_tup, bor_lst, bor_rep, bor_bop, bor_neg, bor_not, bor_and, bor_or, bor_cmp, bor_ix, bor_sl, bor_bi, bor_isi, bor_call, bor_lc, lookE_val, lookB_val, lookB_own, valM_ok, valM_stuck, valM_ex, d_val, d_own, negD_i, notD_b, andD_t, andD_f, orD_t, orD_f, andD_b, orD_b, add_ii, sub_ii, mul_ii', fdiv_ii', mod_ii', pow10_9, pow10_10, pow10_12, pow10_15, pow10_20, pow10_30, pow10_60, pow10_120, add_ll, add_tt, lt_ii, le_ii, gt_ii, ge_ii, eq_ii, ne_ii, isN_d, notN_d, isB_bb, notB_bb, ix_l, ix_t, ixO_some, at_0, at_1, at_2, at_3, iteD_t, iteD_f, iteD_b, ret_var, retV_b, end_rt, end_nx, end_ex, ret_con, ret_glob, ret_tup, ret_lst, ret_rep, ret_bop, ret_neg, ret_not, ret_and, ret_or, ret_cmp, ret_ix, ret_sl, ret_bi, ret_isi, ret_call, ret_lc, isi_ii, isi_ib, isi_it, isi_il, isi_in, isi_bi, isi_bb, isi_tt, isi_tl, isi_ti, isi_tn, isi_ll, isi_lt, bi_abs, bi_len_l, bi_len_t, bi_int_i, bi_int_b, bi_list_l, bi_list_t, bi_tuple_l, bi_tuple_t, bi_sum, bi_all, sumO_some, allO_some, bi_min2, bi_max2, phi_0, phi_1, phi_2, phi_s, bindT_nm, bindT_tp, bindT_tl, bindTs_nil, bindTs_cons, it_seq, it_zip_t, it_zip_l, it_rev, itL, itT, turn_0, turn_t, turn_f, wipe_nil, wipe_cons, forF_eq, whlC_eq, whlF_eq, lcF_eq, bind_ok, bind_stuck, bind_ex, List.set_cons_zero, List.set_cons_succ, List.getElem?_cons_zero, List.getElem?_cons_succ, if_true, if_false, Bool.false_eq_true, reduceIte, part_0, part_1, sl_l, sl_t, nonD, Bool.not_true, Bool.not_false, Bool.and_true, Bool.true_and, Bool.and_false, Bool.false_and, Bool.or_true, Bool.true_or, Bool.or_false, Bool.false_or, Nat.reduceAdd, Int.cast_ofNat_Int, Int.reduceBEq, beq_self_eq_true, Int.reduceToNat, Int.reduceMul, Int.reduceAdd, Int.reduceSub, Int.reduceLT, Int.reduceLE, decide_true, decide_false, Int.reduceFMod, Int.reduceFDiv, Int.reduceNeg, Int.neg_neg, Int.zero_add, Int.add_zero, line_lt, small_i, it_rng1, it_rng2, eq_self, for_nil, for_cons, forK_nx, forK_ct, forK_rt, lc_nil, lc_cons, lcK_some, lcK_none, rng_3, rng_4, run_whole, run_cell, run_near, vals_nil, vals_cons, vals_map, allI_nil, allI_cons, allI_map, allI_app, vals_app, run_divl, run_divt, run_ldivl, run_ldivt, run_euclid, ints_all, List.length_cons, List.length_nil, List.length_map, List.length_append, List.cons_append, List.nil_append, List.length_set, List.length_reverse, go_nx, go_ct, ret_ok, run_mirrored, run_qnumber, app_ok, ix_q0, ix_q1, ix_q2, ix_q3, run_qsame, rng_0, rng_1, rng_2, turn_b, Q.vs_len, isi_q, len_q, seq_q, ne_q, eq_q, ne_q0, ne_li, eq_li, ix_v0, ix_v1, ix_v2, ix_m0, ix_m1, ix_m2, ix_n0, ix_n1, seq_v, seq_m, isi_v, isi_m, isi_n, len_v, len_m, len_n, list_v, bind_v, bind_m, bind_n, bind_q, add_vv, add_tv, set4_0, set4_1, set4_2, set4_3, set3_0, set3_1, set3_2, all_3, all_4, bools_3, bools_4])
theorem run_ldivq {q : Q} : d_ldivisor [q4 q] = .ok (.val (.int (gcdL q.vs : Nat))) := run_ldiv0 (xs := q.vs) rfl
theorem run_divq {q : Q} : d_divisor [q4 q] = .ok (.val (.int (gcdL q.vs : Nat))) := run_div0 (xs := q.vs) rfl
local macro_rules | `(tactic| walk_at "ev") => `(tactic| simp -implicitDefEqProofs (disch := walk_at "ok") only [exL_nil, exL_cons, next_nx, next_rt, next_ct, next_ex, S_asg, S_set, S_put, S_app, S_ite, S_for, S_whl, S_ret, S_cont, S_pass, S_frz, S_raise, put_own, putK_i, app_own, frz_nil, frz_cons, frzK_own, frzK_val, E_var, E_con, E_glob, E_tup, E_lst, E_rep, E_bop, E_neg, E_not, E_and, E_or, E_cmp, E_ix, E_sl, E_bi, E_isi, E_call, E_lc, lcO_ok, L_nil, L_cons, Bs_nil, Bs_cons, bor_var, bor_con, bor_glob, bor_tup, bor_lst, bor_rep, bor_bop, bor_neg, bor_not, bor_and, bor_or, bor_cmp, bor_ix, bor_sl, bor_bi, bor_isi, bor_call, bor_lc, lookE_val, lookB_val, lookB_own, valM_ok, valM_stuck, valM_ex, d_val, d_own, negD_i, notD_b, andD_t, andD_f, orD_t, orD_f, andD_b, orD_b, add_ii, sub_ii, mul_ii', fdiv_ii', mod_ii', pow10_9, pow10_10, pow10_12, pow10_15, pow10_20, pow10_30, pow10_60, pow10_120, add_ll, add_tt, lt_ii, le_ii, gt_ii, ge_ii, eq_ii, ne_ii, isN_d, notN_d, isB_bb, notB_bb, ix_l, ix_t, ixO_some, at_0, at_1, at_2, at_3, iteD_t, iteD_f, iteD_b, ret_var, retV_b, end_rt, end_nx, end_ex, ret_con, ret_glob, ret_tup, ret_lst, ret_rep, ret_bop, ret_neg, ret_not, ret_and, ret_or, ret_cmp, ret_ix, ret_sl, ret_bi, ret_isi, ret_call, ret_lc, isi_ii, isi_ib, isi_it, isi_il, isi_in, isi_bi, isi_bb, isi_tt, isi_tl, isi_ti, isi_tn, isi_ll, isi_lt, bi_abs, bi_len_l, bi_len_t, bi_int_i, bi_int_b, bi_list_l, bi_list_t, bi_tuple_l, bi_tuple_t, bi_sum, bi_all, sumO_some, allO_some, bi_min2, bi_max2, phi_0, phi_1, phi_2, phi_s, bindT_nm, bindT_tp, bindT_tl, bindTs_nil, bindTs_cons, it_seq, it_zip_t, it_zip_l, it_rev, itL, itT, turn_0, turn_t, turn_f, wipe_nil, wipe_cons, forF_eq, whlC_eq, whlF_eq, lcF_eq, bind_ok, bind_stuck, bind_ex, List.set_cons_zero, List.set_cons_succ, List.getElem?_cons_zero, List.getElem?_cons_succ, if_true, if_false, Bool.false_eq_true, reduceIte, part_0, part_1, sl_l, sl_t, nonD, Bool.not_true, Bool.not_false, Bool.and_true, Bool.true_and, Bool.and_false, Bool.false_and, Bool.or_true, Bool.true_or, Bool.or_false, Bool.false_or, Nat.reduceAdd, Int.cast_ofNat_Int, Int.reduceBEq, beq_self_eq_true, Int.reduceToNat, Int.reduceMul, Int.reduceAdd, Int.reduceSub, Int.reduceLT, Int.reduceLE, decide_true, decide_false, Int.reduceFMod, Int.reduceFDiv, Int.reduceNeg, Int.neg_neg, Int.zero_add, Int.add_zero, line_lt, small_i, it_rng1, it_rng2, eq_self, for_nil, for_cons, forK_nx, forK_ct, forK_rt, lc_nil, lc_cons, lcK_some, lcK_none, rng_3, rng_4, run_whole, run_cell, run_near, vals_nil, vals_cons, vals_map, allI_nil, allI_cons, allI_map, allI_app, vals_app, run_divl, run_divt, run_ldivl, run_ldivt, run_euclid, ints_all, List.length_cons, List.length_nil, List.length_map, List.length_append, List.cons_append, List.nil_append, List.length_set, List.length_reverse, go_nx, go_ct, ret_ok, run_mirrored, run_qnumber, app_ok, ix_q0, ix_q1, ix_q2, ix_q3, run_qsame, rng_0, rng_1, rng_2, turn_b, Q.vs_len, isi_q, len_q, seq_q, ne_q, eq_q, ne_q0, ne_li, eq_li, ix_v0, ix_v1, ix_v2, ix_m0, ix_m1, ix_m2, ix_n0, ix_n1, seq_v, seq_m, isi_v, isi_m, isi_n, len_v, len_m, len_n, list_v, bind_v, bind_m, bind_n, bind_q, add_vv, add_tv, set4_0, set4_1, set4_2, set4_3, set3_0, set3_1, set3_2, all_3, all_4, bools_3, bools_4, run_ldivq, run_divq])
theorem sum3 {a b c : Int} : [a, b, c].sum = a + b + c := by simp only [List.sum_cons, List.sum_nil]; omega
theorem sum4 {a b c d : Int} : [a, b, c, d].sum = a + b + c + d := by simp only [List.sum_cons, List.sum_nil]; omega
local macro_rules | `(tactic| walk_at "ev") => `(tactic| simp -implicitDefEqProofs (disch := walk_at "ok") only [exL_nil, exL_cons, next_nx, next_rt, next_ct, next_ex, S_asg, S_set, S_put, S_app, S_ite, S_for, S_whl, S_ret, S_cont, S_pass, S_frz, S_raise, put_own, putK_i, app_own, frz_nil, frz_cons, frzK_own, frzK_val, E_var, E_con, E_glob, E_tup, E_lst, E_rep, E_bop, E_neg, E_not, E_and, E_or, E_cmp, E_ix, E_sl, E_bi, E_isi, E_call, E_lc, lcO_ok, L_nil, L_cons, Bs_nil, Bs_cons, bor_var, bor_con, bor_glob, bor_tup, bor_lst, bor_rep, bor_bop, bor_neg, bor_not, bor_and, bor_or, bor_cmp, bor_ix, bor_sl, bor_bi, bor_isi, bor_call, bor_lc, lookE_val, lookB_val, lookB_own, valM_ok, valM_stuck, valM_ex, d_val, d_own, negD_i, notD_b, andD_t, andD_f, orD_t, orD_f, andD_b, orD_b, add_ii, sub_ii, mul_ii', fdiv_ii', mod_ii', pow10_9, pow10_10, pow10_12, pow10_15, pow10_20, pow10_30, pow10_60, pow10_120, add_ll, add_tt, lt_ii, le_ii, gt_ii, ge_ii, eq_ii, ne_ii, isN_d, notN_d, isB_bb, notB_bb, ix_l, ix_t, ixO_some, at_0, at_1, at_2, at_3, iteD_t, iteD_f, iteD_b, ret_var, retV_b, end_rt, end_nx, end_ex, ret_con, ret_glob, ret_tup, ret_lst, ret_rep, ret_bop, ret_neg, ret_not, ret_and, ret_or, ret_cmp, ret_ix, ret_sl, ret_bi, ret_isi, ret_call, ret_lc, isi_ii, isi_ib, isi_it, isi_il, isi_in, isi_bi, isi_bb, isi_tt, isi_tl, isi_ti, isi_tn, isi_ll, isi_lt, bi_abs, bi_len_l, bi_len_t, bi_int_i, bi_int_b, bi_list_l, bi_list_t, bi_tuple_l, bi_tuple_t, bi_sum, bi_all, sumO_some, allO_some, bi_min2, bi_max2, phi_0, phi_1, phi_2, phi_s, bindT_nm, bindT_tp, bindT_tl, bindTs_nil, bindTs_cons, it_seq, it_zip_t, it_zip_l, it_rev, itL, itT, turn_0, turn_t, turn_f, wipe_nil, wipe_cons, forF_eq, whlC_eq, whlF_eq, lcF_eq, bind_ok, bind_stuck, bind_ex, List.set_cons_zero, List.set_cons_succ, List.getElem?_cons_zero, List.getElem?_cons_succ, if_true, if_false, Bool.false_eq_true, reduceIte, part_0, part_1, sl_l, sl_t, nonD, Bool.not_true, Bool.not_false, Bool.and_true, Bool.true_and, Bool.and_false, Bool.false_and, Bool.or_true, Bool.true_or, Bool.or_false, Bool.false_or, Nat.reduceAdd, Int.cast_ofNat_Int, Int.reduceBEq, beq_self_eq_true, Int.reduceToNat, Int.reduceMul, Int.reduceAdd, Int.reduceSub, Int.reduceLT, Int.reduceLE, decide_true, decide_false, Int.reduceFMod, Int.reduceFDiv, Int.reduceNeg, Int.neg_neg, Int.zero_add, Int.add_zero, line_lt, small_i, it_rng1, it_rng2, eq_self, for_nil, for_cons, forK_nx, forK_ct, forK_rt, lc_nil, lc_cons, lcK_some, lcK_none, rng_3, rng_4, run_whole, run_cell, run_near, vals_nil, vals_cons, vals_map, allI_nil, allI_cons, allI_map, allI_app, vals_app, run_divl, run_divt, run_ldivl, run_ldivt, run_euclid, ints_all, List.length_cons, List.length_nil, List.length_map, List.length_append, List.cons_append, List.nil_append, List.length_set, List.length_reverse, go_nx, go_ct, ret_ok, run_mirrored, run_qnumber, app_ok, ix_q0, ix_q1, ix_q2, ix_q3, run_qsame, rng_0, rng_1, rng_2, turn_b, Q.vs_len, isi_q, len_q, seq_q, ne_q, eq_q, ne_q0, ne_li, eq_li, ix_v0, ix_v1, ix_v2, ix_m0, ix_m1, ix_m2, ix_n0, ix_n1, seq_v, seq_m, isi_v, isi_m, isi_n, len_v, len_m, len_n, list_v, bind_v, bind_m, bind_n, bind_q, add_vv, add_tv, set4_0, set4_1, set4_2, set4_3, set3_0, set3_1, set3_2, all_3, all_4, bools_3, bools_4, run_ldivq, run_divq, sum3, sum4])
theorem sq4 (a : Int) : a * a % 4 = a % 2 := by
  obtain ⟨k, r, h, hr⟩ : ∃ k r : Int, a = 2 * k + r ∧ (r = 0 ∨ r = 1) := ⟨a / 2, a % 2, by omega, by omega⟩
  have e : a * a = 4 * (k * k + k * r) + r * r := by rw [h]; grind
  rcases hr with rfl | rfl <;> omega
theorem sq8 {a : Int} (h : a % 2 = 1) : a * a % 8 = 1 := by
  obtain ⟨k, hk⟩ : ∃ k : Int, a = 2 * k + 1 := ⟨a / 2, by omega⟩
  have h2 : (k * k + k) % 2 = 0 := by
    have := sq4 k
    omega
  have e : a * a = 4 * (k * k + k) + 1 := by rw [hk]; grind
  omega
theorem odd_mul {a b : Int} (ha : a % 2 = 1) (hb : b % 2 = 1) : a * b % 2 = 1 := by
  obtain ⟨k, hk⟩ : ∃ k : Int, a = 2 * k + 1 := ⟨a / 2, by omega⟩
  obtain ⟨j, hj⟩ : ∃ j : Int, b = 2 * j + 1 := ⟨b / 2, by omega⟩
  have e : a * b = 2 * (2 * (k * j) + k + j) + 1 := by rw [hk, hj]; grind
  omega
theorem dvd_g {T : Tn} {e : Nat} (h1 : (e : Int) ∣ T.p.x) (h2 : (e : Int) ∣ T.p.y) (h3 : (e : Int) ∣ T.p.z) (h4 : (e : Int) ∣ T.q.x) (h5 : (e : Int) ∣ T.q.y) (h6 : (e : Int) ∣ T.q.z) (h7 : (e : Int) ∣ T.r.x) (h8 : (e : Int) ∣ T.r.y) (h9 : (e : Int) ∣ T.r.z) (h10 : (e : Int) ∣ T.n) : e ∣ gcdL T.all := by
  refine dvd_gcdL fun x hx => ?_
  simp only [Tn.all, List.mem_cons, List.not_mem_nil, or_false] at hx
  rcases hx with rfl | rfl | rfl | rfl | rfl | rfl | rfl | rfl | rfl | rfl <;> assumption
theorem prim_even {p : Q} (h : p.g = 1) : ¬ (p.a % 2 = 0 ∧ p.b % 2 = 0 ∧ p.c % 2 = 0 ∧ p.d % 2 = 0) := fun ⟨h1, h2, h3, h4⟩ => by
  have : 2 ∣ p.g := dvd_gcdL fun x hx => by
    simp only [Q.vs, List.mem_cons, List.not_mem_nil, or_false] at hx
    rcases hx with rfl | rfl | rfl | rfl <;> exact Int.dvd_of_emod_eq_zero (by assumption)
  rw [h] at this
  omega
theorem four_of {p : Q} (h : p.g = 1) : gcdL (Tn.ofQ p).all ∣ 4 := by
  generalize hG : gcdL (Tn.ofQ p).all = G
  have d : ∀ x ∈ (Tn.ofQ p).all, ∃ k : Int, x = G * k := fun x hx => by rw [← hG]; exact gcdL_dvd hx
  obtain ⟨k1, e1⟩ := d (Tn.ofQ p).p.x (by simp [Tn.all])
  obtain ⟨k2, e2⟩ := d (Tn.ofQ p).p.y (by simp [Tn.all])
  obtain ⟨k3, e3⟩ := d (Tn.ofQ p).p.z (by simp [Tn.all])
  obtain ⟨k4, e4⟩ := d (Tn.ofQ p).q.x (by simp [Tn.all])
  obtain ⟨k5, e5⟩ := d (Tn.ofQ p).q.y (by simp [Tn.all])
  obtain ⟨k6, e6⟩ := d (Tn.ofQ p).q.z (by simp [Tn.all])
  obtain ⟨k7, e7⟩ := d (Tn.ofQ p).r.x (by simp [Tn.all])
  obtain ⟨k8, e8⟩ := d (Tn.ofQ p).r.y (by simp [Tn.all])
  obtain ⟨k9, e9⟩ := d (Tn.ofQ p).r.z (by simp [Tn.all])
  obtain ⟨k0, e0⟩ := d (Tn.ofQ p).n (by simp [Tn.all])
  simp only [Tn.ofQ, Q.size] at e1 e2 e3 e4 e5 e6 e7 e8 e9 e0
  obtain ⟨a, b, c, d'⟩ := p
  simp only at e1 e2 e3 e4 e5 e6 e7 e8 e9 e0
  have aa : (G : Int) ∣ 4 * a * a := ⟨k0 + k1 + k5 + k9, by simp only [Int.mul_add, ← e0, ← e1, ← e5, ← e9]; grind⟩
  have bb : (G : Int) ∣ 4 * b * b := ⟨k0 + k1 - k5 - k9, by simp only [Int.mul_add, Int.mul_sub, ← e0, ← e1, ← e5, ← e9]; grind⟩
  have cc : (G : Int) ∣ 4 * c * c := ⟨k0 - k1 + k5 - k9, by simp only [Int.mul_add, Int.mul_sub, ← e0, ← e1, ← e5, ← e9]; grind⟩
  have dd : (G : Int) ∣ 4 * d' * d' := ⟨k0 - k1 - k5 + k9, by simp only [Int.mul_add, Int.mul_sub, ← e0, ← e1, ← e5, ← e9]; grind⟩
  have bc : (G : Int) ∣ 4 * b * c := ⟨k2 + k4, by simp only [Int.mul_add, Int.mul_sub, ← e2, ← e4]; grind⟩
  have ad : (G : Int) ∣ 4 * a * d' := ⟨k4 - k2, by simp only [Int.mul_add, Int.mul_sub, ← e2, ← e4]; grind⟩
  have bd : (G : Int) ∣ 4 * b * d' := ⟨k3 + k7, by simp only [Int.mul_add, Int.mul_sub, ← e3, ← e7]; grind⟩
  have ac : (G : Int) ∣ 4 * a * c := ⟨k3 - k7, by simp only [Int.mul_add, Int.mul_sub, ← e3, ← e7]; grind⟩
  have cd : (G : Int) ∣ 4 * c * d' := ⟨k6 + k8, by simp only [Int.mul_add, Int.mul_sub, ← e6, ← e8]; grind⟩
  have ab : (G : Int) ∣ 4 * a * b := ⟨k8 - k6, by simp only [Int.mul_add, Int.mul_sub, ← e6, ← e8]; grind⟩
  have cm : ∀ {x y : Int}, (G : Int) ∣ 4 * x * y → (G : Int) ∣ 4 * y * x := fun {x y} h => by rwa [Int.mul_assoc, Int.mul_comm y x, ← Int.mul_assoc]
  have one : ∀ m : Int, (G : Int) ∣ m * a → (G : Int) ∣ m * b → (G : Int) ∣ m * c → (G : Int) ∣ m * d' → (G : Int) ∣ m := fun m h1 h2 h3 h4 => by
    have q : G ∣ gcdL (List.map (m * ·) [a, b, c, d']) := dvd_gcdL fun x hx => by
      simp only [List.map_cons, List.map_nil, List.mem_cons, List.not_mem_nil, or_false] at hx
      rcases hx with rfl | rfl | rfl | rfl <;> assumption
    rw [gcdL_scale, show gcdL [a, b, c, d'] = 1 from h, Nat.mul_one] at q
    exact Int.ofNat_dvd_left.mpr q
  have q := one 4 (one (4 * a) aa ab ac ad) (one (4 * b) (cm ab) bb bc bd) (one (4 * c) (cm ac) (cm bc) cc cd) (one (4 * d') (cm ad) (cm bd) (cm cd) dd)
  exact Int.ofNat_dvd.mp q
theorem two_part {p : Q} (h : p.g = 1) (hz : p ≠ Q.zero) : ∃ G : Int, (G = 1 ∨ G = 2 ∨ G = 4) ∧ p.size = G * (Tn.of p).n ∧ (Tn.of p).n % 2 = 1 := by
  have h4 := four_of h
  have hl := Tn.lw (T := Tn.ofQ p) (Q.size_pos hz)
  have en : p.size = (Tn.ofQ p).g * (Tn.of p).n := congrArg Tn.n hl.e
  have hg : (Tn.ofQ p).g = (gcdL (Tn.ofQ p).all : Nat) := rfl
  have pe := prim_even h
  have sa := sq4 p.a; have sb := sq4 p.b; have sc := sq4 p.c; have sd := sq4 p.d
  have hs : p.size = p.a * p.a + p.b * p.b + p.c * p.c + p.d * p.d := rfl
  have hle := Nat.le_of_dvd (by decide) h4
  have two : p.size % 2 = 0 → 2 ∣ gcdL (Tn.ofQ p).all := fun hn => by
    have hn' : (Tn.ofQ p).n % 2 = 0 := hn
    refine dvd_g ?_ ?_ ?_ ?_ ?_ ?_ ?_ ?_ ?_ ?_ <;> refine Int.dvd_of_emod_eq_zero ?_ <;> simp only [Tn.ofQ] <;> omega
  have odds : p.size % 4 = 0 → p.a % 2 = 1 ∧ p.b % 2 = 1 ∧ p.c % 2 = 1 ∧ p.d % 2 = 1 := fun hn => by omega
  have four : p.size % 4 = 0 → 4 ∣ gcdL (Tn.ofQ p).all := fun hn => by
    obtain ⟨oa, ob, oc, od⟩ := odds hn
    have m1 := odd_mul ob oc; have m2 := odd_mul oa od; have m3 := odd_mul ob od; have m4 := odd_mul oa oc; have m5 := odd_mul oc od; have m6 := odd_mul oa ob
    have t1 := sq8 oa; have t2 := sq8 ob; have t3 := sq8 oc; have t4 := sq8 od
    refine dvd_g ?_ ?_ ?_ ?_ ?_ ?_ ?_ ?_ ?_ ?_ <;> refine Int.dvd_of_emod_eq_zero ?_ <;> simp only [Tn.ofQ] <;> omega
  have eight : p.size % 8 ≠ 0 := fun hn => by
    obtain ⟨oa, ob, oc, od⟩ := odds (by omega)
    have t1 := sq8 oa; have t2 := sq8 ob; have t3 := sq8 oc; have t4 := sq8 od
    omega
  generalize gcdL (Tn.ofQ p).all = G at *
  have hG : G = 1 ∨ G = 2 ∨ G = 4 := by
    have : G = 0 ∨ G = 1 ∨ G = 2 ∨ G = 3 ∨ G = 4 := by omega
    rcases this with rfl | rfl | rfl | rfl | rfl <;> revert h4 <;> decide
  refine ⟨(G : Int), by omega, by rw [en, hg], ?_⟩
  rw [hg] at en
  rcases hG with rfl | rfl | rfl
  · rcases Int.emod_two_eq (Tn.of p).n with z | z
    · have := two (by omega); omega
    · exact z
  · rcases Int.emod_two_eq (Tn.of p).n with z | z
    · have := four (by omega); omega
    · exact z
  · rcases Int.emod_two_eq (Tn.of p).n with z | z
    · exact absurd (by omega) eight
    · exact z
theorem deep_n (T : Tn) : SeqAt.shaped (tn T) = true := by
  unfold SeqAt.shaped tn m3 t3
  simp [PyData.canLay0, PyData.canLayAll0, PyData.depth, PyData.depthAll]
theorem eqv_nn (T : Tn) : PyData.eqv (tn T) (tn T) = true := by
  unfold tn m3 t3
  simp [PyData.eqv, PyData.eqvAll]
theorem eq_nn {T : Tn} : cmpD .eq (tn T) (tn T) = .ok (.val (.bool true)) := by
  rw [eq_dd, if_pos (by unfold eqOk; rw [deep_n]; rfl), eqv_nn]
local macro_rules | `(tactic| walk_at "ev") => `(tactic| simp -implicitDefEqProofs (disch := walk_at "ok") only [exL_nil, exL_cons, next_nx, next_rt, next_ct, next_ex, S_asg, S_set, S_put, S_app, S_ite, S_for, S_whl, S_ret, S_cont, S_pass, S_frz, S_raise, put_own, putK_i, app_own, frz_nil, frz_cons, frzK_own, frzK_val, E_var, E_con, E_glob, E_tup, E_lst, E_rep, E_bop, E_neg, E_not, E_and, E_or, E_cmp, E_ix, E_sl, E_bi, E_isi, E_call, E_lc, lcO_ok, L_nil, L_cons, Bs_nil, Bs_cons, bor_var, bor_con, bor_glob, bor_tup, bor_lst, bor_rep, bor_bop, bor_neg, bor_not, bor_and, bor_or, bor_cmp, bor_ix, bor_sl, bor_bi, bor_isi, bor_call, bor_lc, lookE_val, lookB_val, lookB_own, valM_ok, valM_stuck, valM_ex, d_val, d_own, negD_i, notD_b, andD_t, andD_f, orD_t, orD_f, andD_b, orD_b, add_ii, sub_ii, mul_ii', fdiv_ii', mod_ii', pow10_9, pow10_10, pow10_12, pow10_15, pow10_20, pow10_30, pow10_60, pow10_120, add_ll, add_tt, lt_ii, le_ii, gt_ii, ge_ii, eq_ii, ne_ii, isN_d, notN_d, isB_bb, notB_bb, ix_l, ix_t, ixO_some, at_0, at_1, at_2, at_3, iteD_t, iteD_f, iteD_b, ret_var, retV_b, end_rt, end_nx, end_ex, ret_con, ret_glob, ret_tup, ret_lst, ret_rep, ret_bop, ret_neg, ret_not, ret_and, ret_or, ret_cmp, ret_ix, ret_sl, ret_bi, ret_isi, ret_call, ret_lc, isi_ii, isi_ib, isi_it, isi_il, isi_in, isi_bi, isi_bb, isi_tt, isi_tl, isi_ti, isi_tn, isi_ll, isi_lt, bi_abs, bi_len_l, bi_len_t, bi_int_i, bi_int_b, bi_list_l, bi_list_t, bi_tuple_l, bi_tuple_t, bi_sum, bi_all, sumO_some, allO_some, bi_min2, bi_max2, phi_0, phi_1, phi_2, phi_s, bindT_nm, bindT_tp, bindT_tl, bindTs_nil, bindTs_cons, it_seq, it_zip_t, it_zip_l, it_rev, itL, itT, turn_0, turn_t, turn_f, wipe_nil, wipe_cons, forF_eq, whlC_eq, whlF_eq, lcF_eq, bind_ok, bind_stuck, bind_ex, List.set_cons_zero, List.set_cons_succ, List.getElem?_cons_zero, List.getElem?_cons_succ, if_true, if_false, Bool.false_eq_true, reduceIte, part_0, part_1, sl_l, sl_t, nonD, Bool.not_true, Bool.not_false, Bool.and_true, Bool.true_and, Bool.and_false, Bool.false_and, Bool.or_true, Bool.true_or, Bool.or_false, Bool.false_or, Nat.reduceAdd, Int.cast_ofNat_Int, Int.reduceBEq, beq_self_eq_true, Int.reduceToNat, Int.reduceMul, Int.reduceAdd, Int.reduceSub, Int.reduceLT, Int.reduceLE, decide_true, decide_false, Int.reduceFMod, Int.reduceFDiv, Int.reduceNeg, Int.neg_neg, Int.zero_add, Int.add_zero, line_lt, small_i, it_rng1, it_rng2, eq_self, for_nil, for_cons, forK_nx, forK_ct, forK_rt, lc_nil, lc_cons, lcK_some, lcK_none, rng_3, rng_4, run_whole, run_cell, run_near, vals_nil, vals_cons, vals_map, allI_nil, allI_cons, allI_map, allI_app, vals_app, run_divl, run_divt, run_ldivl, run_ldivt, run_euclid, ints_all, List.length_cons, List.length_nil, List.length_map, List.length_append, List.cons_append, List.nil_append, List.length_set, List.length_reverse, go_nx, go_ct, ret_ok, run_mirrored, run_qnumber, app_ok, ix_q0, ix_q1, ix_q2, ix_q3, run_qsame, rng_0, rng_1, rng_2, turn_b, Q.vs_len, isi_q, len_q, seq_q, ne_q, eq_q, ne_q0, ne_li, eq_li, ix_v0, ix_v1, ix_v2, ix_m0, ix_m1, ix_m2, ix_n0, ix_n1, seq_v, seq_m, isi_v, isi_m, isi_n, len_v, len_m, len_n, list_v, bind_v, bind_m, bind_n, bind_q, add_vv, add_tv, set4_0, set4_1, set4_2, set4_3, set3_0, set3_1, set3_2, all_3, all_4, bools_3, bools_4, run_ldivq, run_divq, sum3, sum4, eq_nn])
theorem zip_v {v w : V3} : itD .zip [t3 v, t3 w] = .ok [.tuple [.int v.x, .int w.x], .tuple [.int v.y, .int w.y], .tuple [.int v.z, .int w.z]] := rfl
theorem tup_v {v : V3} : biD .tuple [t3 v] = .ok (.val (t3 v)) := rfl
local macro_rules | `(tactic| walk_at "ev") => `(tactic| simp -implicitDefEqProofs (disch := walk_at "ok") only [exL_nil, exL_cons, next_nx, next_rt, next_ct, next_ex, S_asg, S_set, S_put, S_app, S_ite, S_for, S_whl, S_ret, S_cont, S_pass, S_frz, S_raise, put_own, putK_i, app_own, frz_nil, frz_cons, frzK_own, frzK_val, E_var, E_con, E_glob, E_tup, E_lst, E_rep, E_bop, E_neg, E_not, E_and, E_or, E_cmp, E_ix, E_sl, E_bi, E_isi, E_call, E_lc, lcO_ok, L_nil, L_cons, Bs_nil, Bs_cons, bor_var, bor_con, bor_glob, bor_tup, bor_lst, bor_rep, bor_bop, bor_neg, bor_not, bor_and, bor_or, bor_cmp, bor_ix, bor_sl, bor_bi, bor_isi, bor_call, bor_lc, lookE_val, lookB_val, lookB_own, valM_ok, valM_stuck, valM_ex, d_val, d_own, negD_i, notD_b, andD_t, andD_f, orD_t, orD_f, andD_b, orD_b, add_ii, sub_ii, mul_ii', fdiv_ii', mod_ii', pow10_9, pow10_10, pow10_12, pow10_15, pow10_20, pow10_30, pow10_60, pow10_120, add_ll, add_tt, lt_ii, le_ii, gt_ii, ge_ii, eq_ii, ne_ii, isN_d, notN_d, isB_bb, notB_bb, ix_l, ix_t, ixO_some, at_0, at_1, at_2, at_3, iteD_t, iteD_f, iteD_b, ret_var, retV_b, end_rt, end_nx, end_ex, ret_con, ret_glob, ret_tup, ret_lst, ret_rep, ret_bop, ret_neg, ret_not, ret_and, ret_or, ret_cmp, ret_ix, ret_sl, ret_bi, ret_isi, ret_call, ret_lc, isi_ii, isi_ib, isi_it, isi_il, isi_in, isi_bi, isi_bb, isi_tt, isi_tl, isi_ti, isi_tn, isi_ll, isi_lt, bi_abs, bi_len_l, bi_len_t, bi_int_i, bi_int_b, bi_list_l, bi_list_t, bi_tuple_l, bi_tuple_t, bi_sum, bi_all, sumO_some, allO_some, bi_min2, bi_max2, phi_0, phi_1, phi_2, phi_s, bindT_nm, bindT_tp, bindT_tl, bindTs_nil, bindTs_cons, it_seq, it_zip_t, it_zip_l, it_rev, itL, itT, turn_0, turn_t, turn_f, wipe_nil, wipe_cons, forF_eq, whlC_eq, whlF_eq, lcF_eq, bind_ok, bind_stuck, bind_ex, List.set_cons_zero, List.set_cons_succ, List.getElem?_cons_zero, List.getElem?_cons_succ, if_true, if_false, Bool.false_eq_true, reduceIte, part_0, part_1, sl_l, sl_t, nonD, Bool.not_true, Bool.not_false, Bool.and_true, Bool.true_and, Bool.and_false, Bool.false_and, Bool.or_true, Bool.true_or, Bool.or_false, Bool.false_or, Nat.reduceAdd, Int.cast_ofNat_Int, Int.reduceBEq, beq_self_eq_true, Int.reduceToNat, Int.reduceMul, Int.reduceAdd, Int.reduceSub, Int.reduceLT, Int.reduceLE, decide_true, decide_false, Int.reduceFMod, Int.reduceFDiv, Int.reduceNeg, Int.neg_neg, Int.zero_add, Int.add_zero, line_lt, small_i, it_rng1, it_rng2, eq_self, for_nil, for_cons, forK_nx, forK_ct, forK_rt, lc_nil, lc_cons, lcK_some, lcK_none, rng_3, rng_4, run_whole, run_cell, run_near, vals_nil, vals_cons, vals_map, allI_nil, allI_cons, allI_map, allI_app, vals_app, run_divl, run_divt, run_ldivl, run_ldivt, run_euclid, ints_all, List.length_cons, List.length_nil, List.length_map, List.length_append, List.cons_append, List.nil_append, List.length_set, List.length_reverse, go_nx, go_ct, ret_ok, run_mirrored, run_qnumber, app_ok, ix_q0, ix_q1, ix_q2, ix_q3, run_qsame, rng_0, rng_1, rng_2, turn_b, Q.vs_len, isi_q, len_q, seq_q, ne_q, eq_q, ne_q0, ne_li, eq_li, ix_v0, ix_v1, ix_v2, ix_m0, ix_m1, ix_m2, ix_n0, ix_n1, seq_v, seq_m, isi_v, isi_m, isi_n, len_v, len_m, len_n, list_v, bind_v, bind_m, bind_n, bind_q, add_vv, add_tv, set4_0, set4_1, set4_2, set4_3, set3_0, set3_1, set3_2, all_3, all_4, bools_3, bools_4, run_ldivq, run_divq, sum3, sum4, eq_nn, zip_v, tup_v])
theorem run_mixed {v w : V3} {m n : Int} {k j : Nat} (hv : v.ok k) (hw : w.ok k) (hm : m.natAbs < 2 ^ j) (hn : n.natAbs < 2 ^ j) (hk : k + j ≤ 900000) :
    d_mixed [t3 v, .int m, t3 w, .int n] = .ok (.val (t3 ⟨m * v.x + n * w.x, m * v.y + n * w.y, m * v.z + n * w.z⟩)) := by
  obtain ⟨v1, v2, v3⟩ := hv
  obtain ⟨w1, w2, w3⟩ := hw
  refine o_mixed ?_
  unfold b_mixed
  walk_at "ev"
  rfl
def V3.sub (v : V3) (n : Int) (r : V3) : V3 := ⟨v.x - n * r.x, v.y - n * r.y, v.z - n * r.z⟩
theorem V3.ok_mono {v : V3} {n m : Nat} (h : v.ok n) (hl : n ≤ m) : v.ok m := ⟨bd_mono h.1 hl, bd_mono h.2.1 hl, bd_mono h.2.2 hl⟩
theorem V3.ok_sub {v r : V3} {n : Int} {k m : Nat} (hv : v.ok k) (hr : r.ok m) (hn : n.natAbs < 2 ^ k) : (v.sub n r).ok (k + m + 1) :=
  ⟨bd_mono (bd_sub hv.1 (bd_mul hn hr.1)) (by omega), bd_mono (bd_sub hv.2.1 (bd_mul hn hr.2.1)) (by omega), bd_mono (bd_sub hv.2.2 (bd_mul hn hr.2.2)) (by omega)⟩
theorem div_bd {a b : Int} {n : Nat} (h : a.natAbs < 2 ^ n) : (a / b).natAbs < 2 ^ n := Nat.lt_of_le_of_lt (Int.natAbs_ediv_le_natAbs a b) h
def cnt (r0 r1 r2 v : V3) : Option V3 :=
  if v.x % r0.x = 0 then
    if (v.sub (v.x / r0.x) r0).y % r1.y = 0 then
      if ((v.sub (v.x / r0.x) r0).sub ((v.sub (v.x / r0.x) r0).y / r1.y) r1).z % r2.z = 0 then
        some ⟨v.x / r0.x, (v.sub (v.x / r0.x) r0).y / r1.y, ((v.sub (v.x / r0.x) r0).sub ((v.sub (v.x / r0.x) r0).y / r1.y) r1).z / r2.z⟩
      else none
    else none
  else none
def opt3 : Option V3 → D
  | none => .none
  | some v => t3 v
theorem run_mix1 {v w : V3} {n : Int} {k : Nat} (hv : v.ok k) (hw : w.ok k) (hn : n.natAbs < 2 ^ k) (hk : k ≤ 400000) : d_mixed [t3 v, .int 1, t3 w, .int (-n)] = .ok (.val (t3 (v.sub n w))) := by
  have h1 : (1 : Int).natAbs < 2 ^ (k + 1) := by
    have := Nat.pow_pos (n := k) (show 0 < 2 by decide)
    rw [Nat.pow_succ]; show 1 < _; omega
  rw [run_mixed hv hw h1 (bd_mono (bd_neg hn) (show k ≤ k + 1 by omega)) (by omega)]
  simp only [V3.sub, Int.one_mul, Int.neg_mul, Int.sub_eq_add_neg]
theorem run_counts {S : D} {r0 r1 r2 v : V3} {k : Nat} (s0 : ixD S (.int 0) = .ok (.val (t3 r0))) (s1 : ixD S (.int 1) = .ok (.val (t3 r1))) (s2 : ixD S (.int 2) = .ok (.val (t3 r2)))
    (h0 : 0 < r0.x) (h1 : 0 < r1.y) (h2 : 0 < r2.z) (o0 : r0.ok k) (o1 : r1.ok k) (o2 : r2.ok k) (ov : v.ok k) (hk : k ≤ 2000) : d_counts [S, t3 v] = .ok (.val (opt3 (cnt r0 r1 r2 v))) := by
  have n0 := div_bd (b := r0.x) ov.1
  have v1 := V3.ok_sub ov o0 n0
  have n1 := div_bd (b := r1.y) v1.2.1
  have v2 := V3.ok_sub v1 (V3.ok_mono o1 (show k ≤ k + k + 1 by omega)) n1
  have n2 := div_bd (b := r2.z) v2.2.2
  have m0 := run_mix1 ov o0 n0 (by omega)
  have m1 := run_mix1 v1 (V3.ok_mono o1 (show k ≤ k + k + 1 by omega)) n1 (by omega)
  have m2 := run_mix1 v2 (V3.ok_mono o2 (show k ≤ k + k + 1 + (k + k + 1) + 1 by omega)) n2 (by omega)
  have z0 : r0.x ≠ 0 := by omega
  have z1 : r1.y ≠ 0 := by omega
  have z2 : r2.z ≠ 0 := by omega
  have b0 := bd_mono o0.1 (show k ≤ 9000 by omega)
  have b1 := bd_mono o1.2.1 (show k ≤ 9000 by omega)
  have b2 := bd_mono o2.2.2 (show k ≤ 9000 by omega)
  refine o_counts ?_
  unfold b_counts cnt
  have e0 := fmod_pos (i := v.x) h0
  have d0 := fdiv_pos (i := v.x) h0
  generalize hv1 : v.sub (v.x / r0.x) r0 = w1 at *
  have e1 := fmod_pos (i := w1.y) h1
  have d1 := fdiv_pos (i := w1.y) h1
  generalize hv2 : w1.sub (w1.y / r1.y) r1 = w2 at *
  have e2 := fmod_pos (i := w2.z) h2
  have d2 := fdiv_pos (i := w2.z) h2
  by_cases c0 : v.x % r0.x = 0
  · rw [if_pos c0]
    have c0' : (v.x % r0.x == 0) = true := by simpa using c0
    by_cases c1 : w1.y % r1.y = 0
    · rw [if_pos c1]
      have c1' : (w1.y % r1.y == 0) = true := by simpa using c1
      by_cases c2 : w2.z % r2.z = 0
      · rw [if_pos c2]
        have c2' : (w2.z % r2.z == 0) = true := by simpa using c2
        repeat (first | walk_at "ev" | rw [s0] | rw [s1] | rw [s2] | rw [e0, c0'] | rw [e1, c1'] | rw [e2, c2'] | rw [d0] | rw [d1] | rw [d2] | rw [m0] | rw [m1] | rw [m2])
        rfl
      · rw [if_neg c2]
        have c2' : (w2.z % r2.z == 0) = false := by simpa using c2
        repeat (first | walk_at "ev" | rw [s0] | rw [s1] | rw [s2] | rw [e0, c0'] | rw [e1, c1'] | rw [e2, c2'] | rw [d0] | rw [d1] | rw [d2] | rw [m0] | rw [m1] | rw [m2])
        rfl
    · rw [if_neg c1]
      have c1' : (w1.y % r1.y == 0) = false := by simpa using c1
      repeat (first | walk_at "ev" | rw [s0] | rw [s1] | rw [s2] | rw [e0, c0'] | rw [e1, c1'] | rw [d0] | rw [d1] | rw [m0] | rw [m1])
      rfl
  · rw [if_neg c0]
    have c0' : (v.x % r0.x == 0) = false := by simpa using c0
    repeat (first | walk_at "ev" | rw [s0] | rw [e0, c0'])
    rfl
def optl : Option V3 → B
  | none => .val .none
  | some v => .own [.int v.x, .int v.y, .int v.z]
theorem run_ldown {S : D} {r0 r1 r2 v : V3} {k : Nat} (s0 : ixD S (.int 0) = .ok (.val (t3 r0))) (s1 : ixD S (.int 1) = .ok (.val (t3 r1))) (s2 : ixD S (.int 2) = .ok (.val (t3 r2)))
    (h0 : 0 < r0.x) (h1 : 0 < r1.y) (h2 : 0 < r2.z) (o0 : r0.ok k) (o1 : r1.ok k) (o2 : r2.ok k) (ov : v.ok k) (hk : k ≤ 2000) : d_ldown [S, .list [.int v.x, .int v.y, .int v.z]] = .ok (optl (cnt r0 r1 r2 v)) := by
  have n0 := div_bd (b := r0.x) ov.1
  have v1 := V3.ok_sub ov o0 n0
  have n1 := div_bd (b := r1.y) v1.2.1
  have v2 := V3.ok_sub v1 (V3.ok_mono o1 (show k ≤ k + k + 1 by omega)) n1
  have n2 := div_bd (b := r2.z) v2.2.2
  have z0 : r0.x ≠ 0 := by omega
  have z1 : r1.y ≠ 0 := by omega
  have z2 : r2.z ≠ 0 := by omega
  have b0 := bd_mono o0.1 (show k ≤ 9000 by omega)
  have b1 := bd_mono o1.2.1 (show k ≤ 9000 by omega)
  have b2 := bd_mono o2.2.2 (show k ≤ 9000 by omega)
  refine o_ldown ?_
  unfold b_ldown cnt
  have e0 := fmod_pos (i := v.x) h0
  have d0 := fdiv_pos (i := v.x) h0
  have x1 : v.x - v.x / r0.x * r0.x = (v.sub (v.x / r0.x) r0).x := rfl
  have y1 : v.y - v.x / r0.x * r0.y = (v.sub (v.x / r0.x) r0).y := rfl
  have w1' : v.z - v.x / r0.x * r0.z = (v.sub (v.x / r0.x) r0).z := rfl
  generalize hv1 : v.sub (v.x / r0.x) r0 = w1 at *
  have e1 := fmod_pos (i := w1.y) h1
  have d1 := fdiv_pos (i := w1.y) h1
  have x2 : w1.x - w1.y / r1.y * r1.x = (w1.sub (w1.y / r1.y) r1).x := rfl
  have y2 : w1.y - w1.y / r1.y * r1.y = (w1.sub (w1.y / r1.y) r1).y := rfl
  have w2' : w1.z - w1.y / r1.y * r1.z = (w1.sub (w1.y / r1.y) r1).z := rfl
  generalize hv2 : w1.sub (w1.y / r1.y) r1 = w2 at *
  have e2 := fmod_pos (i := w2.z) h2
  have d2 := fdiv_pos (i := w2.z) h2
  obtain ⟨a1, a2, a3⟩ := o0
  obtain ⟨a4, a5, a6⟩ := o1
  obtain ⟨a7, a8, a9⟩ := o2
  obtain ⟨g1, g2, g3⟩ := v1
  obtain ⟨g4, g5, g6⟩ := v2
  by_cases c0 : v.x % r0.x = 0
  · rw [if_pos c0]
    have c0' : (v.x % r0.x == 0) = true := by simpa using c0
    by_cases c1 : w1.y % r1.y = 0
    · rw [if_pos c1]
      have c1' : (w1.y % r1.y == 0) = true := by simpa using c1
      by_cases c2 : w2.z % r2.z = 0
      · rw [if_pos c2]
        have c2' : (w2.z % r2.z == 0) = true := by simpa using c2
        repeat (first | walk_at "ev" | rw [s0] | rw [s1] | rw [s2] | rw [e0, c0'] | rw [e1, c1'] | rw [e2, c2'] | rw [d0] | rw [d1] | rw [d2] | rw [x1] | rw [y1] | rw [w1'] | rw [x2] | rw [y2] | rw [w2'])
        rfl
      · rw [if_neg c2]
        have c2' : (w2.z % r2.z == 0) = false := by simpa using c2
        repeat (first | walk_at "ev" | rw [s0] | rw [s1] | rw [s2] | rw [e0, c0'] | rw [e1, c1'] | rw [e2, c2'] | rw [d0] | rw [d1] | rw [d2] | rw [x1] | rw [y1] | rw [w1'] | rw [x2] | rw [y2] | rw [w2'])
        rfl
    · rw [if_neg c1]
      have c1' : (w1.y % r1.y == 0) = false := by simpa using c1
      repeat (first | walk_at "ev" | rw [s0] | rw [s1] | rw [s2] | rw [e0, c0'] | rw [e1, c1'] | rw [d0] | rw [d1] | rw [x1] | rw [y1] | rw [w1'])
      rfl
  · rw [if_neg c0]
    have c0' : (v.x % r0.x == 0) = false := by simpa using c0
    repeat (first | walk_at "ev" | rw [s0] | rw [e0, c0'] | rw [d0])
    rfl
theorem eqv_v (v w : V3) : PyData.eqv (t3 v) (t3 w) = (v.x == w.x && (v.y == w.y && v.z == w.z)) := by
  simp [t3, PyData.eqv, PyData.eqvAll]
theorem ne_rows {a b c : V3} : cmpD .ne (.list [t3 a, t3 b, t3 c]) (.list [t3 a, t3 b, t3 c]) = .ok (.val (.bool false)) := by
  rw [ne_dd, if_pos]
  · simp [PyData.eqv, PyData.eqvAll, eqv_v]
  · unfold eqOk SeqAt.shaped t3
    simp [PyData.canLay0, PyData.canLayAll0, PyData.depth, PyData.depthAll]
local macro_rules | `(tactic| walk_at "ev") => `(tactic| simp -implicitDefEqProofs (disch := walk_at "ok") only [exL_nil, exL_cons, next_nx, next_rt, next_ct, next_ex, S_asg, S_set, S_put, S_app, S_ite, S_for, S_whl, S_ret, S_cont, S_pass, S_frz, S_raise, put_own, putK_i, app_own, frz_nil, frz_cons, frzK_own, frzK_val, E_var, E_con, E_glob, E_tup, E_lst, E_rep, E_bop, E_neg, E_not, E_and, E_or, E_cmp, E_ix, E_sl, E_bi, E_isi, E_call, E_lc, lcO_ok, L_nil, L_cons, Bs_nil, Bs_cons, bor_var, bor_con, bor_glob, bor_tup, bor_lst, bor_rep, bor_bop, bor_neg, bor_not, bor_and, bor_or, bor_cmp, bor_ix, bor_sl, bor_bi, bor_isi, bor_call, bor_lc, lookE_val, lookB_val, lookB_own, valM_ok, valM_stuck, valM_ex, d_val, d_own, negD_i, notD_b, andD_t, andD_f, orD_t, orD_f, andD_b, orD_b, add_ii, sub_ii, mul_ii', fdiv_ii', mod_ii', pow10_9, pow10_10, pow10_12, pow10_15, pow10_20, pow10_30, pow10_60, pow10_120, add_ll, add_tt, lt_ii, le_ii, gt_ii, ge_ii, eq_ii, ne_ii, isN_d, notN_d, isB_bb, notB_bb, ix_l, ix_t, ixO_some, at_0, at_1, at_2, at_3, iteD_t, iteD_f, iteD_b, ret_var, retV_b, end_rt, end_nx, end_ex, ret_con, ret_glob, ret_tup, ret_lst, ret_rep, ret_bop, ret_neg, ret_not, ret_and, ret_or, ret_cmp, ret_ix, ret_sl, ret_bi, ret_isi, ret_call, ret_lc, isi_ii, isi_ib, isi_it, isi_il, isi_in, isi_bi, isi_bb, isi_tt, isi_tl, isi_ti, isi_tn, isi_ll, isi_lt, bi_abs, bi_len_l, bi_len_t, bi_int_i, bi_int_b, bi_list_l, bi_list_t, bi_tuple_l, bi_tuple_t, bi_sum, bi_all, sumO_some, allO_some, bi_min2, bi_max2, phi_0, phi_1, phi_2, phi_s, bindT_nm, bindT_tp, bindT_tl, bindTs_nil, bindTs_cons, it_seq, it_zip_t, it_zip_l, it_rev, itL, itT, turn_0, turn_t, turn_f, wipe_nil, wipe_cons, forF_eq, whlC_eq, whlF_eq, lcF_eq, bind_ok, bind_stuck, bind_ex, List.set_cons_zero, List.set_cons_succ, List.getElem?_cons_zero, List.getElem?_cons_succ, if_true, if_false, Bool.false_eq_true, reduceIte, part_0, part_1, sl_l, sl_t, nonD, Bool.not_true, Bool.not_false, Bool.and_true, Bool.true_and, Bool.and_false, Bool.false_and, Bool.or_true, Bool.true_or, Bool.or_false, Bool.false_or, Nat.reduceAdd, Int.cast_ofNat_Int, Int.reduceBEq, beq_self_eq_true, Int.reduceToNat, Int.reduceMul, Int.reduceAdd, Int.reduceSub, Int.reduceLT, Int.reduceLE, decide_true, decide_false, Int.reduceFMod, Int.reduceFDiv, Int.reduceNeg, Int.neg_neg, Int.zero_add, Int.add_zero, line_lt, small_i, it_rng1, it_rng2, eq_self, for_nil, for_cons, forK_nx, forK_ct, forK_rt, lc_nil, lc_cons, lcK_some, lcK_none, rng_3, rng_4, run_whole, run_cell, run_near, vals_nil, vals_cons, vals_map, allI_nil, allI_cons, allI_map, allI_app, vals_app, run_divl, run_divt, run_ldivl, run_ldivt, run_euclid, ints_all, List.length_cons, List.length_nil, List.length_map, List.length_append, List.cons_append, List.nil_append, List.length_set, List.length_reverse, go_nx, go_ct, ret_ok, run_mirrored, run_qnumber, app_ok, ix_q0, ix_q1, ix_q2, ix_q3, run_qsame, rng_0, rng_1, rng_2, turn_b, Q.vs_len, isi_q, len_q, seq_q, ne_q, eq_q, ne_q0, ne_li, eq_li, ix_v0, ix_v1, ix_v2, ix_m0, ix_m1, ix_m2, ix_n0, ix_n1, seq_v, seq_m, isi_v, isi_m, isi_n, len_v, len_m, len_n, list_v, bind_v, bind_m, bind_n, bind_q, add_vv, add_tv, set4_0, set4_1, set4_2, set4_3, set3_0, set3_1, set3_2, all_3, all_4, bools_3, bools_4, run_ldivq, run_divq, sum3, sum4, eq_nn, zip_v, tup_v, ne_rows])
theorem ix_r0 {a b c : D} : ixD (.list [a, b, c]) (.int 0) = .ok (.val a) := by rw [ix_l, at_0]; rfl
theorem ix_r1 {a b c : D} : ixD (.list [a, b, c]) (.int 1) = .ok (.val b) := by rw [ix_l, at_1]; rfl
theorem ix_r2 {a b c : D} : ixD (.list [a, b, c]) (.int 2) = .ok (.val c) := by rw [ix_l, at_2]; rfl
end Lb
namespace K28
open PySem Tg
def b__law_number : List S :=
   [.ite (.cmp .lt (.bop .mod (.var 0) (.con (.int 3))) (.con (.int 2))) [.ret (.call 0 [.bop .fdiv (.var 0) (.con (.int 3)), .con (.int 6)])] [],
    .ret (.call 0 [.bop .fdiv (.var 0) (.con (.int 3)), .bop .pow (.con (.int 10)) (.con (.int 20))])]
noncomputable def d__law_number : List D → M B := runF (phi [Lb.d_near]) 1 1 b__law_number
theorem o__law_number {x0 : D} {r : M B} (h : endD (exL (phi [Lb.d_near]) b__law_number [some (.val x0)]) = r) : d__law_number [x0] = r := run_of rfl rfl h
def b__law_points : List S :=
   [.set 3 (.lst []),
    .for (.nm 4) .rng [.var 1, .bi .min [.bi .len [.var 0], .bop .add (.var 1) (.bop .mul (.con (.int 3)) (.var 2))], .con (.int 3)] [.asg (.nm 5) (.lc (.call 0 [.call 1 [.var 0, .bop .add (.var 4) (.var 6)]]) (.nm 6) .rng [.con (.int 3)] [] [6]), .app 3 (.tup [.ix (.var 5) (.con (.int 0)), .ix (.var 5) (.con (.int 1)), .ix (.var 5) (.con (.int 2))])],
    .ret (.var 3)]
noncomputable def d__law_points : List D → M B := runF (phi [d__law_number, Lb.d_cell]) 3 7 b__law_points
theorem o__law_points {x0 x1 x2 : D} {r : M B} (h : endD (exL (phi [d__law_number, Lb.d_cell]) b__law_points [some (.val x0), some (.val x1), some (.val x2), none, none, none, none]) = r) : d__law_points [x0, x1, x2] = r := run_of rfl rfl h
def b__law_lead : List S :=
   [.ite (.cmp .eq (.bop .mod (.var 0) (.con (.int 2))) (.con (.int 0))) [.ret (.bop .add (.con (.int 1)) (.bop .mod (.bop .fdiv (.var 0) (.con (.int 2))) (.con (.int 12))))] [],
    .ret (.bop .add (.con (.int 1)) (.bop .mod (.bop .fdiv (.var 0) (.con (.int 2))) (.bop .pow (.con (.int 10)) (.con (.int 20)))))]
noncomputable def d__law_lead : List D → M B := runF (phi []) 1 1 b__law_lead
theorem o__law_lead {x0 : D} {r : M B} (h : endD (exL (phi []) b__law_lead [some (.val x0)]) = r) : d__law_lead [x0] = r := run_of rfl rfl h
def b__law_stair : List S :=
   [.asg (.nm 1) (.call 0 [.call 1 [.var 0, .con (.int 0)]]),
    .asg (.nm 2) (.call 0 [.call 1 [.var 0, .con (.int 1)]]),
    .asg (.nm 3) (.call 0 [.call 1 [.var 0, .con (.int 2)]]),
    .asg (.nm 4) (.bop .mod (.bop .fdiv (.call 1 [.var 0, .con (.int 1)]) (.con (.int 7))) (.var 2)),
    .asg (.nm 5) (.bop .mod (.bop .fdiv (.call 1 [.var 0, .con (.int 2)]) (.con (.int 11))) (.var 3)),
    .ret (.lst [.tup [.var 1, .var 4, .var 5], .tup [.con (.int 0), .var 2, .bop .mod (.bop .fdiv (.call 1 [.var 0, .con (.int 0)]) (.con (.int 13))) (.var 3)], .tup [.con (.int 0), .con (.int 0), .var 3]])]
noncomputable def d__law_stair : List D → M B := runF (phi [d__law_lead, Lb.d_cell]) 1 6 b__law_stair
theorem o__law_stair {x0 : D} {r : M B} (h : endD (exL (phi [d__law_lead, Lb.d_cell]) b__law_stair [some (.val x0), none, none, none, none, none]) = r) : d__law_stair [x0] = r := run_of rfl rfl h
def b__law_good : List S :=
   [.ite (.cmp .isN (.var 1) (.con .none)) [.ret (.cmp .isN (.var 0) (.con .none))] [],
    .ite (.or (.not (.isi (.var 0) .tuple)) (.cmp .ne (.bi .len [.var 0]) (.con (.int 3)))) [.ret (.con (.bool false))] [],
    .for (.nm 2) .rng [.con (.int 3)] [.ite (.or (.not (.call 0 [.ix (.var 0) (.var 2)])) (.cmp .ne (.ix (.var 0) (.var 2)) (.ix (.var 1) (.var 2)))) [.ret (.con (.bool false))] []],
    .ret (.con (.bool true))]
noncomputable def d__law_good : List D → M B := runF (phi [Lb.d_whole]) 2 3 b__law_good
theorem o__law_good {x0 x1 : D} {r : M B} (h : endD (exL (phi [Lb.d_whole]) b__law_good [some (.val x0), some (.val x1), none]) = r) : d__law_good [x0, x1] = r := run_of rfl rfl h
def b_law : List S :=
   [.asg (.nm 1) (.call 0 [.var 0]),
    .for (.nm 2) .rng [.bop .add (.con (.int 1)) (.bi .min [.bi .len [.var 0], .con (.int 40)])] [.asg (.nm 3) (.call 1 [.var 0, .var 2]), .asg (.nm 4) (.lst [.call 2 [.bop .fdiv (.var 3) (.con (.int 9))], .call 2 [.bop .fdiv (.var 3) (.con (.int 17))], .call 2 [.bop .fdiv (.var 3) (.con (.int 29))]]), .set 5 (.lc (.bi .sum [.lc (.bop .mul (.ix (.var 4) (.var 9)) (.ix (.ix (.var 1) (.var 9)) (.var 8))) (.nm 9) .rng [.con (.int 3)] [] [9]]) (.nm 8) .rng [.con (.int 3)] [] [8]), .ite (.cmp .gt (.bop .mod (.var 3) (.con (.int 3))) (.con (.int 0))) [.put 5 (.bop .mod (.bop .fdiv (.var 3) (.con (.int 3))) (.con (.int 3))) (.bop .sub (.bop .add (.ix (.var 5) (.bop .mod (.bop .fdiv (.var 3) (.con (.int 3))) (.con (.int 3)))) (.bop .mod (.bop .fdiv (.var 3) (.con (.int 41))) (.con (.int 13)))) (.con (.int 6)))] [], .asg (.nm 6) (.bi .list [.var 1]), .asg (.nm 7) (.call 3 [.var 6, .tup [.ix (.var 5) (.con (.int 0)), .ix (.var 5) (.con (.int 1)), .ix (.var 5) (.con (.int 2))]]), .frz [5] (.ite (.or (.cmp .ne (.var 6) (.var 1)) (.not (.call 4 [.var 7, .call 5 [.var 1, .var 5]]))) [.ret (.con (.bool false))] [])],
    .ret (.con (.bool true))]
noncomputable def d_law : List D → M B := runF (phi [d__law_stair, Lb.d_cell, d__law_number, Lb.d_counts, d__law_good, Lb.d_ldown]) 1 10 b_law
theorem o_law {x0 : D} {r : M B} (h : endD (exL (phi [d__law_stair, Lb.d_cell, d__law_number, Lb.d_counts, d__law_good, Lb.d_ldown]) b_law [some (.val x0), none, none, none, none, none, none, none, none, none]) = r) : d_law [x0] = r := run_of rfl rfl h
end K28
namespace K28
open PySem Tg Lb
local macro_rules | `(tactic| walk_at "bd") => `(tactic| first | assumption | exact near_b3 | exact near_b6 | exact near_b9 | exact near_b999 | exact near_b1000 | exact near_b12 | exact near_b15 | exact near_b20 | exact near_b30 | exact near_b60 | exact bd_lit rfl (by decide) | (refine' bd_add ?h1 ?h2; (case h1 => walk_at "bd"); (case h2 => walk_at "bd")) | (refine' bd_sub ?h1 ?h2; (case h1 => walk_at "bd"); (case h2 => walk_at "bd")) | (refine' bd_mul ?h1 ?h2; (case h1 => walk_at "bd"); (case h2 => walk_at "bd")) | (refine' bd_neg ?_; walk_at "bd"))
local macro_rules | `(tactic| walk_at "ok") => `(tactic| first | assumption | decide | (refine line_lt ?_; (first | omega | (simp only [List.length_map, List.length_append, List.length_cons, List.length_nil, List.length_reverse]; omega))) | (refine' mulOk_of ?h1 ?h2 ?h3; (case h1 => walk_at "bd"); (case h2 => walk_at "bd"); (case h3 => first | decide | omega | (simp only [Nat.max_def]; first | decide | omega))) | (refine divOk_of ?_ ?_ <;> first | assumption | decide +kernel | omega) | omega | (simp -implicitDefEqProofs only [allI_nil, allI_cons, allI_map, allI_app, Bool.and_self, Bool.and_true]; done))
local macro_rules | `(tactic| walk_at "ev") => `(tactic| simp -implicitDefEqProofs (disch := walk_at "ok") only [exL_nil, exL_cons, next_nx, next_rt, next_ct, next_ex, S_asg, S_set, S_put, S_app, S_ite, S_for, S_whl, S_ret, S_cont, S_pass, S_frz, S_raise, put_own, putK_i, app_own, frz_nil, frz_cons, frzK_own, frzK_val, E_var, E_con, E_glob, E_tup, E_lst, E_rep, E_bop, E_neg, E_not, E_and, E_or, E_cmp, E_ix, E_sl, E_bi, E_isi, E_call, E_lc, lcO_ok, L_nil, L_cons, Bs_nil, Bs_cons, bor_var, bor_con, bor_glob, bor_tup, bor_lst, bor_rep, bor_bop, bor_neg, bor_not, bor_and, bor_or, bor_cmp, bor_ix, bor_sl, bor_bi, bor_isi, bor_call, bor_lc, lookE_val, lookB_val, lookB_own, valM_ok, valM_stuck, valM_ex, d_val, d_own, negD_i, notD_b, andD_t, andD_f, orD_t, orD_f, andD_b, orD_b, add_ii, sub_ii, mul_ii', fdiv_ii', mod_ii', pow10_9, pow10_10, pow10_12, pow10_15, pow10_20, pow10_30, pow10_60, pow10_120, add_ll, add_tt, lt_ii, le_ii, gt_ii, ge_ii, eq_ii, ne_ii, isN_d, notN_d, isB_bb, notB_bb, ix_l, ix_t, ixO_some, at_0, at_1, at_2, at_3, iteD_t, iteD_f, iteD_b, ret_var, retV_b, end_rt, end_nx, end_ex, ret_con, ret_glob, ret_tup, ret_lst, ret_rep, ret_bop, ret_neg, ret_not, ret_and, ret_or, ret_cmp, ret_ix, ret_sl, ret_bi, ret_isi, ret_call, ret_lc, isi_ii, isi_ib, isi_it, isi_il, isi_in, isi_bi, isi_bb, isi_tt, isi_tl, isi_ti, isi_tn, isi_ll, isi_lt, bi_abs, bi_len_l, bi_len_t, bi_int_i, bi_int_b, bi_list_l, bi_list_t, bi_tuple_l, bi_tuple_t, bi_sum, bi_all, sumO_some, allO_some, bi_min2, bi_max2, phi_0, phi_1, phi_2, phi_s, bindT_nm, bindT_tp, bindT_tl, bindTs_nil, bindTs_cons, it_seq, it_zip_t, it_zip_l, it_rev, itL, itT, turn_0, turn_t, turn_f, wipe_nil, wipe_cons, forF_eq, whlC_eq, whlF_eq, lcF_eq, bind_ok, bind_stuck, bind_ex, List.set_cons_zero, List.set_cons_succ, List.getElem?_cons_zero, List.getElem?_cons_succ, if_true, if_false, Bool.false_eq_true, reduceIte, part_0, part_1, sl_l, sl_t, nonD, Bool.not_true, Bool.not_false, Bool.and_true, Bool.true_and, Bool.and_false, Bool.false_and, Bool.or_true, Bool.true_or, Bool.or_false, Bool.false_or, Nat.reduceAdd, Int.cast_ofNat_Int, Int.reduceBEq, beq_self_eq_true, Int.reduceToNat, Int.reduceMul, Int.reduceAdd, Int.reduceSub, Int.reduceLT, Int.reduceLE, decide_true, decide_false, Int.reduceFMod, Int.reduceFDiv, Int.reduceNeg, Int.neg_neg, Int.zero_add, Int.add_zero, line_lt, small_i, it_rng1, it_rng2, eq_self, for_nil, for_cons, forK_nx, forK_ct, forK_rt, lc_nil, lc_cons, lcK_some, lcK_none, rng_3, rng_4, run_whole, run_cell, run_near, vals_nil, vals_cons, vals_map, allI_nil, allI_cons, allI_map, allI_app, vals_app, run_divl, run_divt, run_ldivl, run_ldivt, run_euclid, ints_all, List.length_cons, List.length_nil, List.length_map, List.length_append, List.cons_append, List.nil_append, List.length_set, List.length_reverse, go_nx, go_ct, ret_ok, run_mirrored, run_qnumber, app_ok, ix_q0, ix_q1, ix_q2, ix_q3, run_qsame, rng_0, rng_1, rng_2, turn_b, Q.vs_len, isi_q, len_q, seq_q, ne_q, eq_q, ne_q0, ne_li, eq_li, ix_v0, ix_v1, ix_v2, ix_m0, ix_m1, ix_m2, ix_n0, ix_n1, seq_v, seq_m, isi_v, isi_m, isi_n, len_v, len_m, len_n, list_v, bind_v, bind_m, bind_n, bind_q, add_vv, add_tv, set4_0, set4_1, set4_2, set4_3, set3_0, set3_1, set3_2, all_3, all_4, bools_3, bools_4, run_ldivq, run_divq, sum3, sum4, eq_nn, zip_v, tup_v, ne_rows])
def lnum (c : Int) : Int := if c % 3 < 2 then near (c.fdiv 3) 6 else near (c.fdiv 3) (10 ^ 20)
theorem lnum_bd {c : Int} : (lnum c).natAbs < 2 ^ 67 := by
  unfold lnum
  split
  · exact bd_mono near_b6 (by decide)
  · exact near_b20
theorem run_lnum {c : Int} : d__law_number [.int c] = .ok (.val (.int (lnum c))) := by
  refine o__law_number ?_
  unfold b__law_number lnum
  have e := fmod_pos (i := c) (j := 3) (by decide)
  by_cases h : c % 3 < 2
  · rw [if_pos h]
    repeat (first | walk_at "ev" | rw [e] | rw [decide_eq_true h])
  · rw [if_neg h]
    repeat (first | walk_at "ev" | rw [e] | rw [decide_eq_false h])
theorem run_lead {c : Int} : ∃ n : Int, d__law_lead [.int c] = .ok (.val (.int n)) ∧ 0 < n ∧ n.natAbs < 2 ^ 67 := by
  have e := fmod_pos (i := c) (j := 2) (by decide)
  have e1 := fmod_pos (i := c.fdiv 2) (j := 12) (by decide)
  have e2 := fmod_pos (i := c.fdiv 2) (j := 10 ^ 20) (by decide)
  have q1 := mod_rng (a := c.fdiv 2) (b := 12) (by decide)
  have q2 := mod_rng (a := c.fdiv 2) (b := 10 ^ 20) (by decide)
  by_cases h : c % 2 = 0
  · refine ⟨1 + c.fdiv 2 % 12, o__law_lead ?_, by omega, by omega⟩
    unfold b__law_lead
    repeat (first | walk_at "ev" | rw [e, h] | rw [e1])
  · refine ⟨1 + c.fdiv 2 % 10 ^ 20, o__law_lead ?_, by omega, by omega⟩
    unfold b__law_lead
    have h' : (c % 2 == 0) = false := by simpa using h
    repeat (first | walk_at "ev" | rw [e, h'] | rw [e2])
structure St where
  a : V3
  b : V3
  c : V3
def rows (S : St) : D := .list [t3 S.a, t3 S.b, t3 S.c]
theorem run_stair {ns : List Int} : ∃ S : St, d__law_stair [.list (ns.map PyData.int)] = .ok (.own [t3 S.a, t3 S.b, t3 S.c]) ∧ 0 < S.a.x ∧ 0 < S.b.y ∧ 0 < S.c.z ∧ S.a.ok 67 ∧ S.b.ok 67 ∧ S.c.ok 67 := by
  obtain ⟨a, ea, a0, ab⟩ := run_lead (c := cellI ns 0)
  obtain ⟨d, ed, d0, db⟩ := run_lead (c := cellI ns 1)
  obtain ⟨f, ef, f0, fb⟩ := run_lead (c := cellI ns 2)
  have z : (0 : Int).natAbs < 2 ^ 67 := by decide
  have dn : d ≠ 0 := by omega
  have fn : f ≠ 0 := by omega
  have m : ∀ {x y : Int}, 0 < y → y.natAbs < 2 ^ 67 → (x.fmod y).natAbs < 2 ^ 67 := fun {x y} h h2 => by
    rw [fmod_pos h]
    have := mod_rng (a := x) (b := y) h
    omega
  refine ⟨⟨⟨a, ((cellI ns 1).fdiv 7).fmod d, ((cellI ns 2).fdiv 11).fmod f⟩, ⟨0, d, ((cellI ns 0).fdiv 13).fmod f⟩, ⟨0, 0, f⟩⟩, o__law_stair ?_, a0, d0, f0, ⟨ab, m d0 db, m f0 fb⟩, ⟨z, db, m f0 fb⟩, ⟨z, z, fb⟩⟩
  unfold b__law_stair
  repeat (first | walk_at "ev" | rw [ea] | rw [ed] | rw [ef])
  rfl
theorem run_good0 : d__law_good [.none, .none] = .ok (.val (.bool true)) := by
  refine o__law_good ?_
  unfold b__law_good
  repeat (first | walk_at "ev" | rw [show nonD .none = true from rfl])
theorem run_good1 {u : V3} : d__law_good [t3 u, .list [.int u.x, .int u.y, .int u.z]] = .ok (.val (.bool true)) := by
  refine o__law_good ?_
  unfold b__law_good
  repeat (first | walk_at "ev" | rw [show nonD (.list [.int u.x, .int u.y, .int u.z]) = false from rfl])
theorem run_both {o : Option V3} : d__law_good [opt3 o, (optl o).d] = .ok (.val (.bool true)) := by
  cases o with
  | none => exact run_good0
  | some u => exact run_good1
theorem law_true (ns : List Int) (h : ns.length ≤ 63) : d_law [.list (ns.map PyData.int)] = .ok (.val (.bool true)) := by
  refine o_law ?_
  unfold b_law
  obtain ⟨S, e1, p0, p1, p2, o0, o1, o2⟩ := run_stair (ns := ns)
  obtain ⟨x1, x2, x3⟩ := id o0
  obtain ⟨x4, x5, x6⟩ := id o1
  obtain ⟨x7, x8, x9⟩ := id o2
  have hmn : 0 ≤ (if (40 : Int) < ns.length then 40 else (ns.length : Int)) ∧ (if (40 : Int) < ns.length then 40 else (ns.length : Int)) ≤ 40 := by split <;> omega
  repeat (first | walk_at "ev" | rw [e1])
  refine for_eq (fun i ρ => ∃ a b c d e f g h, ρ = [some (.val (.list (ns.map PyData.int))), some (.val (.list [t3 S.a, t3 S.b, t3 S.c])), a, b, c, d, e, f, g, h]) ⟨_, _, _, _, _, _, _, _, rfl⟩ (fun i d ρ hd ⟨a, b, c, d', e, f, g, h', eq⟩ => ?_) (fun ρ1 ⟨a, b, c, d', e, f, g, h', eq⟩ => ?_)
  · obtain ⟨hi, rfl⟩ := rngD_get _ _ _ _ _ hd
    subst eq
    have i0 : 0 ≤ (i : Int) * 1 := by omega
    have t1 := lnum_bd (c := (cellI ns ((i : Int) * 1)).fdiv 9)
    have t2 := lnum_bd (c := (cellI ns ((i : Int) * 1)).fdiv 17)
    have t3' := lnum_bd (c := (cellI ns ((i : Int) * 1)).fdiv 29)
    generalize hc : cellI ns ((i : Int) * 1) = c at *
    have fin : ∀ (v : V3) (a b d f g y z : Option B), v.ok 300 → Go (fun ρ => ∃ a b c d e f g h, ρ = [some (.val (.list (ns.map PyData.int))), some (.val (.list [t3 S.a, t3 S.b, t3 S.c])), a, b, c, d, e, f, g, h])
      (exL (phi [d__law_stair, d_cell, d__law_number, d_counts, d__law_good, d_ldown]) [.asg (.nm 6) (.bi .list [.var 1]), .asg (.nm 7) (.call 3 [.var 6, .tup [.ix (.var 5) (.con (.int 0)), .ix (.var 5) (.con (.int 1)), .ix (.var 5) (.con (.int 2))]]), .frz [5] (.ite (.or (.cmp .ne (.var 6) (.var 1)) (.not (.call 4 [.var 7, .call 5 [.var 1, .var 5]]))) [.ret (.con (.bool false))] [])]
        [some (.val (.list (ns.map PyData.int))), some (.val (.list [t3 S.a, t3 S.b, t3 S.c])), a, b, d, some (.own [.int v.x, .int v.y, .int v.z]), f, g, y, z]) := by
      intro v a b d f g y z vb
      have f1 := run_counts (S := .list [t3 S.a, t3 S.b, t3 S.c]) ix_r0 ix_r1 ix_r2 p0 p1 p2 (V3.ok_mono o0 (show 67 ≤ 300 by decide)) (V3.ok_mono o1 (show 67 ≤ 300 by decide)) (V3.ok_mono o2 (show 67 ≤ 300 by decide)) vb (by decide)
      have f2 := run_ldown (S := .list [t3 S.a, t3 S.b, t3 S.c]) ix_r0 ix_r1 ix_r2 p0 p1 p2 (V3.ok_mono o0 (show 67 ≤ 300 by decide)) (V3.ok_mono o1 (show 67 ≤ 300 by decide)) (V3.ok_mono o2 (show 67 ≤ 300 by decide)) vb (by decide)
      have vq : PyData.tuple [.int v.x, .int v.y, .int v.z] = t3 v := rfl
      repeat (first | walk_at "ev" | rw [vq] | rw [f1] | rw [f2] | rw [run_both])
      exact ⟨_, _, _, _, _, _, _, _, rfl⟩
    have em : c.fmod 3 = c % 3 := fmod_pos (by decide)
    have ek : (c.fdiv 3).fmod 3 = (c.fdiv 3) % 3 := fmod_pos (by decide)
    have ej : (c.fdiv 41).fmod 13 = (c.fdiv 41) % 13 := fmod_pos (by decide)
    have hj := mod_rng (a := c.fdiv 41) (b := 13) (by decide)
    generalize hn1 : lnum (c.fdiv 9) = n1 at *
    generalize hn2 : lnum (c.fdiv 17) = n2 at *
    generalize hn3 : lnum (c.fdiv 29) = n3 at *
    have bx : ∀ {a b c : Int}, a.natAbs < 2 ^ 67 → b.natAbs < 2 ^ 67 → c.natAbs < 2 ^ 67 → (n1 * a + n2 * b + n3 * c).natAbs < 2 ^ 200 := fun h1 h2 h3 => bd_mono (bd_add (bd_add (bd_mul t1 h1) (bd_mul t2 h2)) (bd_mul t3' h3)) (by decide)
    have bX := bx x1 x4 x7
    have bY := bx x2 x5 x8
    have bZ := bx x3 x6 x9
    have bm : ∀ {a : Int}, a.natAbs < 2 ^ 200 → (a + (c.fdiv 41) % 13 - 6).natAbs < 2 ^ 300 := fun h => by omega
    by_cases h0 : 0 < c % 3
    · have hk : (c.fdiv 3) % 3 = 0 ∨ (c.fdiv 3) % 3 = 1 ∨ (c.fdiv 3) % 3 = 2 := by omega
      have c0 : decide (0 < c % 3) = true := decide_eq_true h0
      rcases hk with hk | hk | hk
      · repeat (first | walk_at "ev" | rw [hc] | rw [run_lnum] | rw [hn1] | rw [hn2] | rw [hn3] | rw [em, c0] | rw [ek, hk] | rw [ej])
        exact fin ⟨_, _, _⟩ _ _ _ none none _ _ ⟨bm bX, bd_mono bY (by decide), bd_mono bZ (by decide)⟩
      · repeat (first | walk_at "ev" | rw [hc] | rw [run_lnum] | rw [hn1] | rw [hn2] | rw [hn3] | rw [em, c0] | rw [ek, hk] | rw [ej])
        exact fin ⟨_, _, _⟩ _ _ _ none none _ _ ⟨bd_mono bX (by decide), bm bY, bd_mono bZ (by decide)⟩
      · repeat (first | walk_at "ev" | rw [hc] | rw [run_lnum] | rw [hn1] | rw [hn2] | rw [hn3] | rw [em, c0] | rw [ek, hk] | rw [ej])
        exact fin ⟨_, _, _⟩ _ _ _ none none _ _ ⟨bd_mono bX (by decide), bd_mono bY (by decide), bm bZ⟩
    · have c0 : decide (0 < c % 3) = false := decide_eq_false h0
      repeat (first | walk_at "ev" | rw [hc] | rw [run_lnum] | rw [hn1] | rw [hn2] | rw [hn3] | rw [em, c0] | rw [ek] | rw [ej])
      exact fin ⟨_, _, _⟩ _ _ _ none none _ _ ⟨bd_mono bX (by decide), bd_mono bY (by decide), bd_mono bZ (by decide)⟩
  · subst eq
    walk_at "ev"
end K28
namespace K28
open PySem PySem.Spec PyProof.Rows L2 Tg
def topS (i : Nat) : Stmt := PySem.Challenge.pw_turngrid_k28_counted.main.body.getD i (.Pass ⟨0, 0, 0, 0⟩)
abbrev s_mixed : Stmt := topS 1
def T_mixed : Tb := ⟨["one", "many", "other", "often", "a", "b"], [], [], []⟩
theorem sc_mixed : FnScope T_mixed.N ["one", "many", "other", "often"] (defScope s_mixed) := ⟨rfl, rfl, rfl, by decide +kernel, rfl, by decide +kernel, by decide +kernel⟩
theorem ck_mixed : ckB T_mixed ⟨defScope s_mixed, fun _ => true⟩ Lb.b_mixed (defBody s_mixed) = true := by decide +kernel
abbrev s_counts : Stmt := topS 2
def T_counts : Tb := ⟨["stair", "point", "found", "left", "place"], ["mixed"], [], []⟩
theorem sc_counts : FnScope T_counts.N ["stair", "point"] (defScope s_counts) := ⟨rfl, rfl, rfl, by decide +kernel, rfl, by decide +kernel, by decide +kernel⟩
theorem ck_counts : ckB T_counts ⟨defScope s_counts, fun _ => true⟩ Lb.b_counts (defBody s_counts) = true := by decide +kernel
abbrev s__law_cell_at : Stmt := topS 4
def T__law_cell_at : Tb := ⟨["script", "k"], [], [], []⟩
theorem sc__law_cell_at : FnScope T__law_cell_at.N ["script", "k"] (defScope s__law_cell_at) := ⟨rfl, rfl, rfl, by decide +kernel, rfl, by decide +kernel, by decide +kernel⟩
theorem ck__law_cell_at : ckB T__law_cell_at ⟨defScope s__law_cell_at, fun _ => true⟩ Lb.b_cell (defBody s__law_cell_at) = true := by decide +kernel
abbrev s__law_whole : Stmt := topS 5
def T__law_whole : Tb := ⟨["found"], [], [], []⟩
theorem sc__law_whole : FnScope T__law_whole.N ["found"] (defScope s__law_whole) := ⟨rfl, rfl, rfl, by decide +kernel, rfl, by decide +kernel, by decide +kernel⟩
theorem ck__law_whole : ckB T__law_whole ⟨defScope s__law_whole, fun _ => true⟩ Lb.b_whole (defBody s__law_whole) = true := by decide +kernel
abbrev s__law_near : Stmt := topS 6
def T__law_near : Tb := ⟨["cell", "most", "left"], [], [], []⟩
theorem sc__law_near : FnScope T__law_near.N ["cell", "most"] (defScope s__law_near) := ⟨rfl, rfl, rfl, by decide +kernel, rfl, by decide +kernel, by decide +kernel⟩
theorem ck__law_near : ckB T__law_near ⟨defScope s__law_near, fun _ => true⟩ Lb.b_near (defBody s__law_near) = true := by decide +kernel
abbrev s__law_number : Stmt := topS 7
def T__law_number : Tb := ⟨["cell"], ["_law_near"], [], []⟩
theorem sc__law_number : FnScope T__law_number.N ["cell"] (defScope s__law_number) := ⟨rfl, rfl, rfl, by decide +kernel, rfl, by decide +kernel, by decide +kernel⟩
theorem ck__law_number : ckB T__law_number ⟨defScope s__law_number, fun _ => true⟩ b__law_number (defBody s__law_number) = true := by decide +kernel
abbrev s__law_points : Stmt := topS 8
def T__law_points : Tb := ⟨["script", "begin", "most", "found", "k", "numbers", "j"], ["_law_number", "_law_cell_at"], [], []⟩
theorem sc__law_points : FnScope T__law_points.N ["script", "begin", "most"] (defScope s__law_points) := ⟨rfl, rfl, rfl, by decide +kernel, rfl, by decide +kernel, by decide +kernel⟩
theorem ck__law_points : ckB T__law_points ⟨defScope s__law_points, fun _ => true⟩ b__law_points (defBody s__law_points) = true := by decide +kernel
abbrev s__law_down : Stmt := topS 9
def T__law_down : Tb := ⟨["rows", "point", "left", "found", "k", "many", "j"], [], [], []⟩
theorem sc__law_down : FnScope T__law_down.N ["rows", "point"] (defScope s__law_down) := ⟨rfl, rfl, rfl, by decide +kernel, rfl, by decide +kernel, by decide +kernel⟩
theorem ck__law_down : ckB T__law_down ⟨defScope s__law_down, fun _ => true⟩ Lb.b_ldown (defBody s__law_down) = true := by decide +kernel
abbrev s__law_lead : Stmt := topS 10
def T__law_lead : Tb := ⟨["cell"], [], [], []⟩
theorem sc__law_lead : FnScope T__law_lead.N ["cell"] (defScope s__law_lead) := ⟨rfl, rfl, rfl, by decide +kernel, rfl, by decide +kernel, by decide +kernel⟩
theorem ck__law_lead : ckB T__law_lead ⟨defScope s__law_lead, fun _ => true⟩ b__law_lead (defBody s__law_lead) = true := by decide +kernel
abbrev s__law_stair : Stmt := topS 11
def T__law_stair : Tb := ⟨["script", "a", "d", "f", "b", "c"], ["_law_lead", "_law_cell_at"], [], []⟩
theorem sc__law_stair : FnScope T__law_stair.N ["script"] (defScope s__law_stair) := ⟨rfl, rfl, rfl, by decide +kernel, rfl, by decide +kernel, by decide +kernel⟩
theorem ck__law_stair : ckB T__law_stair ⟨defScope s__law_stair, fun _ => true⟩ b__law_stair (defBody s__law_stair) = true := by decide +kernel
abbrev s__law_good : Stmt := topS 12
def T__law_good : Tb := ⟨["found", "due", "k"], ["_law_whole"], [], []⟩
theorem sc__law_good : FnScope T__law_good.N ["found", "due"] (defScope s__law_good) := ⟨rfl, rfl, rfl, by decide +kernel, rfl, by decide +kernel, by decide +kernel⟩
theorem ck__law_good : ckB T__law_good ⟨defScope s__law_good, fun _ => true⟩ b__law_good (defBody s__law_good) = true := by decide +kernel
abbrev s_law : Stmt := topS 13
def T_law : Tb := ⟨["script", "rows", "k", "cell", "often", "point", "handed", "found", "j", "i"], ["_law_stair", "_law_cell_at", "_law_number", "counts", "_law_good", "_law_down"], [], []⟩
theorem sc_law : FnScope T_law.N ["script"] (defScope s_law) := ⟨rfl, rfl, rfl, by decide +kernel, rfl, by decide +kernel, by decide +kernel⟩
theorem ck_law : ckB T_law ⟨defScope s_law, fun _ => true⟩ b_law (defBody s_law) = true := by decide +kernel
section
variable {P : Program} {w : World} {K : PySem.W.Frag} {mg : Str → Option Value} {base : Heap} {ev : Nat → Value}
theorem can_mixed {f : Addr} (A : At K "mixed" s_mixed f) {h : Heap} (X : K.In h) (G : h.Ns mainGlobals mg) (bl : ∀ y ∈ bltNames, mg y = none) : Can P w K mg base ev 1 "mixed" Lb.d_mixed := by
  obtain ⟨hm, kV, dc, pm, cd, ct, an, F⟩ := A.fn X G
  exact can_of (lvl := 0) F hm (F.binds fun _ _ _ _ _ _ us hl => match us, hl with | [_, _, _, _], _ => rfl) sc_mixed ck_mixed (by decide) calls_nil bl con_nil exc_nil
theorem can_counts {f : Addr} (A : At K "counts" s_counts f) {h : Heap} (X : K.In h) (G : h.Ns mainGlobals mg) (bl : ∀ y ∈ bltNames, mg y = none) (c_mixed : Can P w K mg base ev 1 "mixed" Lb.d_mixed) : Can P w K mg base ev 2 "counts" Lb.d_counts := by
  obtain ⟨hm, kV, dc, pm, cd, ct, an, F⟩ := A.fn X G
  exact can_of (lvl := 1) F hm (F.binds fun _ _ _ _ _ _ us hl => match us, hl with | [_, _], _ => rfl) sc_counts ck_counts (by decide) (calls_cons c_mixed (by decide) calls_nil) bl con_nil exc_nil
theorem can__law_cell_at {f : Addr} (A : At K "_law_cell_at" s__law_cell_at f) {h : Heap} (X : K.In h) (G : h.Ns mainGlobals mg) (bl : ∀ y ∈ bltNames, mg y = none) : Can P w K mg base ev 1 "_law_cell_at" Lb.d_cell := by
  obtain ⟨hm, kV, dc, pm, cd, ct, an, F⟩ := A.fn X G
  exact can_of (lvl := 0) F hm (F.binds fun _ _ _ _ _ _ us hl => match us, hl with | [_, _], _ => rfl) sc__law_cell_at ck__law_cell_at (by decide) calls_nil bl con_nil exc_nil
theorem can__law_whole {f : Addr} (A : At K "_law_whole" s__law_whole f) {h : Heap} (X : K.In h) (G : h.Ns mainGlobals mg) (bl : ∀ y ∈ bltNames, mg y = none) : Can P w K mg base ev 1 "_law_whole" Lb.d_whole := by
  obtain ⟨hm, kV, dc, pm, cd, ct, an, F⟩ := A.fn X G
  exact can_of (lvl := 0) F hm (F.binds fun _ _ _ _ _ _ us hl => match us, hl with | [_], _ => rfl) sc__law_whole ck__law_whole (by decide) calls_nil bl con_nil exc_nil
theorem can__law_near {f : Addr} (A : At K "_law_near" s__law_near f) {h : Heap} (X : K.In h) (G : h.Ns mainGlobals mg) (bl : ∀ y ∈ bltNames, mg y = none) : Can P w K mg base ev 1 "_law_near" Lb.d_near := by
  obtain ⟨hm, kV, dc, pm, cd, ct, an, F⟩ := A.fn X G
  exact can_of (lvl := 0) F hm (F.binds fun _ _ _ _ _ _ us hl => match us, hl with | [_, _], _ => rfl) sc__law_near ck__law_near (by decide) calls_nil bl con_nil exc_nil
theorem can__law_number {f : Addr} (A : At K "_law_number" s__law_number f) {h : Heap} (X : K.In h) (G : h.Ns mainGlobals mg) (bl : ∀ y ∈ bltNames, mg y = none) (c__law_near : Can P w K mg base ev 1 "_law_near" Lb.d_near) : Can P w K mg base ev 2 "_law_number" d__law_number := by
  obtain ⟨hm, kV, dc, pm, cd, ct, an, F⟩ := A.fn X G
  exact can_of (lvl := 1) F hm (F.binds fun _ _ _ _ _ _ us hl => match us, hl with | [_], _ => rfl) sc__law_number ck__law_number (by decide) (calls_cons c__law_near (by decide) calls_nil) bl con_nil exc_nil
theorem can__law_points {f : Addr} (A : At K "_law_points" s__law_points f) {h : Heap} (X : K.In h) (G : h.Ns mainGlobals mg) (bl : ∀ y ∈ bltNames, mg y = none) (c__law_number : Can P w K mg base ev 2 "_law_number" d__law_number) (c__law_cell_at : Can P w K mg base ev 1 "_law_cell_at" Lb.d_cell) : Can P w K mg base ev 3 "_law_points" d__law_points := by
  obtain ⟨hm, kV, dc, pm, cd, ct, an, F⟩ := A.fn X G
  exact can_of (lvl := 2) F hm (F.binds fun _ _ _ _ _ _ us hl => match us, hl with | [_, _, _], _ => rfl) sc__law_points ck__law_points (by decide) (calls_cons c__law_number (by decide) (calls_cons c__law_cell_at (by decide) calls_nil)) bl con_nil exc_nil
theorem can__law_down {f : Addr} (A : At K "_law_down" s__law_down f) {h : Heap} (X : K.In h) (G : h.Ns mainGlobals mg) (bl : ∀ y ∈ bltNames, mg y = none) : Can P w K mg base ev 1 "_law_down" Lb.d_ldown := by
  obtain ⟨hm, kV, dc, pm, cd, ct, an, F⟩ := A.fn X G
  exact can_of (lvl := 0) F hm (F.binds fun _ _ _ _ _ _ us hl => match us, hl with | [_, _], _ => rfl) sc__law_down ck__law_down (by decide) calls_nil bl con_nil exc_nil
theorem can__law_lead {f : Addr} (A : At K "_law_lead" s__law_lead f) {h : Heap} (X : K.In h) (G : h.Ns mainGlobals mg) (bl : ∀ y ∈ bltNames, mg y = none) : Can P w K mg base ev 1 "_law_lead" d__law_lead := by
  obtain ⟨hm, kV, dc, pm, cd, ct, an, F⟩ := A.fn X G
  exact can_of (lvl := 0) F hm (F.binds fun _ _ _ _ _ _ us hl => match us, hl with | [_], _ => rfl) sc__law_lead ck__law_lead (by decide) calls_nil bl con_nil exc_nil
theorem can__law_stair {f : Addr} (A : At K "_law_stair" s__law_stair f) {h : Heap} (X : K.In h) (G : h.Ns mainGlobals mg) (bl : ∀ y ∈ bltNames, mg y = none) (c__law_lead : Can P w K mg base ev 1 "_law_lead" d__law_lead) (c__law_cell_at : Can P w K mg base ev 1 "_law_cell_at" Lb.d_cell) : Can P w K mg base ev 2 "_law_stair" d__law_stair := by
  obtain ⟨hm, kV, dc, pm, cd, ct, an, F⟩ := A.fn X G
  exact can_of (lvl := 1) F hm (F.binds fun _ _ _ _ _ _ us hl => match us, hl with | [_], _ => rfl) sc__law_stair ck__law_stair (by decide) (calls_cons c__law_lead (by decide) (calls_cons c__law_cell_at (by decide) calls_nil)) bl con_nil exc_nil
theorem can__law_good {f : Addr} (A : At K "_law_good" s__law_good f) {h : Heap} (X : K.In h) (G : h.Ns mainGlobals mg) (bl : ∀ y ∈ bltNames, mg y = none) (c__law_whole : Can P w K mg base ev 1 "_law_whole" Lb.d_whole) : Can P w K mg base ev 2 "_law_good" d__law_good := by
  obtain ⟨hm, kV, dc, pm, cd, ct, an, F⟩ := A.fn X G
  exact can_of (lvl := 1) F hm (F.binds fun _ _ _ _ _ _ us hl => match us, hl with | [_, _], _ => rfl) sc__law_good ck__law_good (by decide) (calls_cons c__law_whole (by decide) calls_nil) bl con_nil exc_nil
theorem ok_law {f : Addr} {fd : FuncData} (F : Fun K "law" "law" s_law f fd) (bl : ∀ y ∈ bltNames, mg y = none) (c__law_stair : Can P w K mg base ev 2 "_law_stair" d__law_stair) (c__law_cell_at : Can P w K mg base ev 1 "_law_cell_at" Lb.d_cell) (c__law_number : Can P w K mg base ev 2 "_law_number" d__law_number) (c_counts : Can P w K mg base ev 2 "counts" Lb.d_counts) (c__law_good : Can P w K mg base ev 2 "_law_good" d__law_good) (c__law_down : Can P w K mg base ev 1 "_law_down" Lb.d_ldown) : FnOk P w K mg base (L2.CX P w) 3 f fd ["script"] (spP K 1 d_law ev) :=
  fnOk (lvl := 2) F sc_law ck_law (by decide) (calls_cons c__law_stair (by decide) (calls_cons c__law_cell_at (by decide) (calls_cons c__law_number (by decide) (calls_cons c_counts (by decide) (calls_cons c__law_good (by decide) (calls_cons c__law_down (by decide) calls_nil)))))) bl con_nil exc_nil
end
theorem all_mk {P : Program} {w : World} {K : PySem.W.Frag} {ev : Nat → Value} {h : Heap} {mg : Str → Option Value} {fa : Addr} {f_mixed f_counts f__law_cell_at f__law_whole f__law_near f__law_number f__law_points f__law_down f__law_lead f__law_stair f__law_good f_law : Addr} (X : K.In h) (G : h.Ns mainGlobals mg) (hfa : mg "law" = some (.ref fa)) (A_mixed : At K "mixed" s_mixed f_mixed) (A_counts : At K "counts" s_counts f_counts) (A__law_cell_at : At K "_law_cell_at" s__law_cell_at f__law_cell_at) (A__law_whole : At K "_law_whole" s__law_whole f__law_whole) (A__law_near : At K "_law_near" s__law_near f__law_near) (A__law_number : At K "_law_number" s__law_number f__law_number) (A__law_points : At K "_law_points" s__law_points f__law_points) (A__law_down : At K "_law_down" s__law_down f__law_down) (A__law_lead : At K "_law_lead" s__law_lead f__law_lead) (A__law_stair : At K "_law_stair" s__law_stair f__law_stair) (A__law_good : At K "_law_good" s__law_good f__law_good) (A_law : At K "law" s_law f_law)  (z : Free K) :
    ∃ fd : FuncData, (∀ (s : Shared) (v : Value), BindsTo s fd ⟨[v], []⟩ [("script", v)]) ∧ ∀ base : Heap, K.In base → base.Ns mainGlobals mg → FnOk P w K mg base (L2.CX P w) 3 fa fd ["script"] (spP K 1 d_law ev) := by
  have bl := blt_all X G z
  obtain ⟨hm, kV, dc, pm, cd, ct, an, F⟩ := A_law.fn X G
  have e := hfa.symm.trans hm
  cases e
  refine ⟨PySem.W.fnOf "law" "law" (defArgs s_law) (defBody s_law) (defScope s_law) .none kV dc pm an cd ct, fun s v => .of_eq rfl, fun base _ _ => ?_⟩
  have c_mixed := can_mixed (P := P) (w := w) (base := base) (ev := ev) A_mixed X G bl 
  have c_counts := can_counts (P := P) (w := w) (base := base) (ev := ev) A_counts X G bl c_mixed
  have c__law_cell_at := can__law_cell_at (P := P) (w := w) (base := base) (ev := ev) A__law_cell_at X G bl 
  have c__law_whole := can__law_whole (P := P) (w := w) (base := base) (ev := ev) A__law_whole X G bl 
  have c__law_near := can__law_near (P := P) (w := w) (base := base) (ev := ev) A__law_near X G bl 
  have c__law_number := can__law_number (P := P) (w := w) (base := base) (ev := ev) A__law_number X G bl c__law_near
  have c__law_points := can__law_points (P := P) (w := w) (base := base) (ev := ev) A__law_points X G bl c__law_number c__law_cell_at
  have c__law_down := can__law_down (P := P) (w := w) (base := base) (ev := ev) A__law_down X G bl 
  have c__law_lead := can__law_lead (P := P) (w := w) (base := base) (ev := ev) A__law_lead X G bl 
  have c__law_stair := can__law_stair (P := P) (w := w) (base := base) (ev := ev) A__law_stair X G bl c__law_lead c__law_cell_at
  have c__law_good := can__law_good (P := P) (w := w) (base := base) (ev := ev) A__law_good X G bl c__law_whole
  exact ok_law F bl c__law_stair c__law_cell_at c__law_number c_counts c__law_good c__law_down
end K28
open PySem PySem.W PyProof.Rows
set_option maxHeartbeats 0 in
theorem PySem.Challenge.cw_turngrid_k28_counted_holds : PySem.Challenge.rw_turngrid_k28_counted.Holds := by
  w_on; o_law; k_head; (case hw => w_witness2)
  k_fill
  refine L2.walk_of (l := PySem.Challenge.rw_turngrid_k28_counted) (n := 63) (k := 3) (x := "script") (CX := fun w => L2.CX PySem.Challenge.rw_turngrid_k28_counted.prog w) (sp := fun w => Tg.spK _ 1 K28.d_law []) rfl (by decide) rfl ⟨rfl, by decide, by decide⟩ (fun w h Y => PySem.W.kIn_of Y) ?F (fun _ _ a ns hl _ hS => Tg.law_sp hS (K28.law_true ns hl)) (fun w H s e s' h => Tg.no_exc w _ H s e s' h)
  case F =>
    intro w mg fa h KX G hmg
    refine' K28.all_mk KX G hmg (Tg.at_mk ?a0 ?l0 ?c0 ?k0) (Tg.at_mk ?a1 ?l1 ?c1 ?k1) (Tg.at_mk ?a2 ?l2 ?c2 ?k2) (Tg.at_mk ?a3 ?l3 ?c3 ?k3) (Tg.at_mk ?a4 ?l4 ?c4 ?k4) (Tg.at_mk ?a5 ?l5 ?c5 ?k5) (Tg.at_mk ?a6 ?l6 ?c6 ?k6) (Tg.at_mk ?a7 ?l7 ?c7 ?k7) (Tg.at_mk ?a8 ?l8 ?c8 ?k8) (Tg.at_mk ?a9 ?l9 ?c9 ?k9) (Tg.at_mk ?a10 ?l10 ?c10 ?k10) (Tg.at_mk ?a11 ?l11 ?c11 ?k11)  (Tg.free_mk ?z0 ?z1 ?z2 ?z3 ?z4 ?z5 ?z6 ?z7 ?z8 ?z9 ?z10 ?z11 ?z12 ?z13 ?z14 ?z15)
    (case a0 => k_is); (case l0 => k_is); (case c0 => k_is); (case k0 => k_is); (case a1 => k_is); (case l1 => k_is); (case c1 => k_is); (case k1 => k_is); (case a2 => k_is); (case l2 => k_is); (case c2 => k_is); (case k2 => k_is); (case a3 => k_is); (case l3 => k_is); (case c3 => k_is); (case k3 => k_is); (case a4 => k_is); (case l4 => k_is); (case c4 => k_is); (case k4 => k_is); (case a5 => k_is); (case l5 => k_is); (case c5 => k_is); (case k5 => k_is); (case a6 => k_is); (case l6 => k_is); (case c6 => k_is); (case k6 => k_is); (case a7 => k_is); (case l7 => k_is); (case c7 => k_is); (case k7 => k_is); (case a8 => k_is); (case l8 => k_is); (case c8 => k_is); (case k8 => k_is); (case a9 => k_is); (case l9 => k_is); (case c9 => k_is); (case k9 => k_is); (case a10 => k_is); (case l10 => k_is); (case c10 => k_is); (case k10 => k_is); (case a11 => k_is); (case l11 => k_is); (case c11 => k_is); (case k11 => k_is); (case z0 => k_is); (case z1 => k_is); (case z2 => k_is); (case z3 => k_is); (case z4 => k_is); (case z5 => k_is); (case z6 => k_is); (case z7 => k_is); (case z8 => k_is); (case z9 => k_is); (case z10 => k_is); (case z11 => k_is); (case z12 => k_is); (case z13 => k_is); (case z14 => k_is); (case z15 => k_is)
