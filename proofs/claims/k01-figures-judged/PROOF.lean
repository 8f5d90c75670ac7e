import PyProof.Rows.All
import Wide.All
import OpenK.AllK
import Wide.FinOn
import HandS.ForMost
import HandS.IsInst
import HandS.Wide
import HandS.TupAny
import HandS.TupMul
import PyProof.ReprRoads
import HandS.Rev
import HandS.RevTup
import PyProof.ListRange
import HandS.Style
import KE.KTupSum
import KE.GoesMore
import PyProof.EnumMake
import PySem.Challenge.RW_figuredrows_k01_figures_judged
set_option Elab.async false
section
set_option linter.all false
/-! The data, the small language and its evaluator. -/
namespace Fr
open PySem

/-- data: a list bears whether it is the only one who holds it (may be changed) -/
inductive D where
  | non | bl (b : Bool) | int (i : Int) | str (x : Str)
  | tup (xs : List D) | lst (o : Bool) (xs : List D)
  | dic (o : Bool) (ks : List L2.Key) (vs : List D)
  deriving Inhabited

mutual
/-- nobody else may change it: all flags down -/
@[simp] def fz : D → D
  | .tup xs => .tup (fzs xs)
  | .lst _ xs => .lst false (fzs xs)
  | .dic _ ks vs => .dic false ks (fzs vs)
  | d => d
@[simp] def fzs : List D → List D
  | [] => []
  | d :: r => fz d :: fzs r
end
mutual
/-- no flag is down within: nothing of it is shared -/
@[simp] def nof : D → Bool
  | .tup xs => nofs xs
  | .lst o xs => o && nofs xs
  | .dic o _ vs => o && nofs vs
  | _ => true
@[simp] def nofs : List D → Bool
  | [] => true
  | d :: r => nof d && nofs r
end
mutual
/-- no list at all within -/
def lf : D → Bool
  | .tup xs => lfs xs
  | .lst _ _ => false
  | .dic _ _ _ => false
  | _ => true
def lfs : List D → Bool
  | [] => true
  | d :: r => lf d && lfs r
end
def kd : L2.Key → PyData
  | .inl i => .int i
  | .inr x => .str x
mutual
def py : D → PyData
  | .non => .none
  | .bl b => .bool b
  | .int i => .int i
  | .str x => .str x
  | .tup xs => .tuple (pys xs)
  | .lst _ xs => .list (pys xs)
  | .dic _ ks vs => .dict (pyk ks vs)
def pys : List D → List PyData
  | [] => []
  | d :: r => py d :: pys r
def pyk : List L2.Key → List D → List (PyData × PyData)
  | k :: ks, d :: r => (kd k, py d) :: pyk ks r
  | _, _ => []
end

theorem fzs_map (l : List D) : fzs l = l.map fz := by
  induction l with
  | nil => rfl
  | cons a r ih => simp [fzs, ih]
theorem pys_map (l : List D) : pys l = l.map py := by
  induction l with
  | nil => rfl
  | cons a r ih => simp [pys, ih]

abbrev Env := List (Option D)

/-- an operand: what stands in a slot (read when it is used), or a value made on the way -/
inductive Opd where
  | sl (i : Nat) | v (d : D)

inductive Op2 where
  | add | sub | mul | fdiv | mod | pow | eq | ne | lt | le | gt | ge | isN | notN
  deriving DecidableEq
inductive Ty where
  | int | bool | str | list | tuple | dict
  deriving DecidableEq
inductive Blt where
  | len | abs | int | min | max | sum | repr | tuple | list | lrev | isi (t : Ty)
  deriving DecidableEq

/-- targets -/
inductive Tg where
  | nm (i : Nat)
  | tp (l : List Nat)


mutual
inductive Ex where
  | var (i : Nat)
  | con (d : D)
  | glo (g : Nat)
  | op (o : Op2) (a b : Ex)
  | chn (o o' : Op2) (a b c : Ex)
  | neg (a : Ex)
  | nt (a : Ex)
  | an (a b : Ex)
  | or (a b : Ex)
  | ife (c a b : Ex)
  | blt (f : Blt) (as : Exs)
  | call (f : Nat) (m : Option Nat) (as : Exs)
  | callK (f : Nat) (m : Option Nat) (as : Exs) (ks : List Nat) (bs : Exs)
  | tup (es : Exs)
  | lst (es : Exs)
  | dic (ks : List L2.Key) (ds : List D)
  | ix (a i : Ex)
  | sli (l h : Bool) (a lo hi : Ex)
  | rev (a : Ex)
  | comp (own : List Nat) (tg : Tg) (it : It) (c : Ex) (e : Ex)
  | app (i : Nat) (e : Ex)
  | popL (i : Nat)
  | popA (i j : Nat)
  /-- only looked at: what is ours stays ours -/
  | sc (e : Ex)
  | isi (t : Ty) (a : Ex)
  | lrev (a : Ex)
inductive Exs where
  | nil
  | cons (e : Ex) (r : Exs)
inductive It where
  | seq (a : Ex)
  | rng (as : Exs)
  | enu (a : Ex)
  | rev (a : Ex)
end
mutual
inductive St where
  | asg (i : Nat) (e : Ex)
  | asgT (l : List Nat) (e : Ex)
  | par (i j : Nat) (a b : Ex)
  | six (i : Nat) (k e : Ex)
  | ex (e : Ex)
  | ife (c : Ex) (a b : Sts)
  | wh (c : Ex) (b : Sts)
  | fr (tg : Tg) (it : It) (b : Sts)
  | ret (e : Ex)
  | brk | cnt | pass
inductive Sts where
  | nil
  | cons (s : St) (r : Sts)
end

/-! ### operators on data -/
def ixN (n : Nat) (i : Int) : Option Nat := L2.ixN n i
def cut (xs : List D) (lo hi : Option Int) : List D := (xs.drop (HT.sIx xs.length 0 lo)).take (HT.sIx xs.length xs.length hi - HT.sIx xs.length 0 lo)
def part : D → Option (Option Int)
  | .int i => some (some i)
  | .non => some none
  | _ => none
mutual
/-- what == looks into -/
def plain : D → Bool
  | .tup xs => plains xs
  | .lst _ xs => plains xs
  | .dic _ _ _ => false
  | _ => true
def plains : List D → Bool
  | [] => true
  | d :: r => plain d && plains r
end
mutual
def nolst : D → Bool
  | .tup xs => nolsts xs
  | .lst _ _ => false
  | .dic _ _ xs => nolsts xs
  | _ => true
def nolsts : List D → Bool
  | [] => true
  | d :: r => nolst d && nolsts r
end
def bigMul (i j : Int) : Bool := decide (i.natAbs.log2 + j.natAbs.log2 < 1000000)
def okDiv (j : Int) : Bool := decide (0 < j) && decide (j.natAbs.log2 < 9000)
def okPow (i j : Int) : Bool := decide (0 ≤ j) && decide (j ≤ 1000000) && decide (i.natAbs < 2 ^ 64)
/-- (by choice: so the kernel does not reckon the bounds) -/
noncomputable def when' {α : Type} (b : Bool) (x : α) : Option α := @ite _ (b = true) (Classical.propDecidable _) (some x) none

def okMulL (n : Nat) (k : Int) : Bool := decide (-(2 ^ 63) ≤ k) && decide (k < 2 ^ 63) && decide (n * k.toNat ≤ sizeLine)
def okMulT (n : Nat) (k : Int) : Bool := decide (-1000000 ≤ k) && decide (k ≤ 1000) && decide (n ≤ 1000)
def okRng (j : Int) : Bool := decide (-(2 ^ 62) ≤ j) && decide (j < 2 ^ 62)
noncomputable def f2 : Op2 → D → D → Option D
  | .add, .int a, .int b => some (.int (a + b))
  | .add, .tup a, .tup b => when' (decide (a.length + b.length ≤ sizeLine)) (.tup (a ++ b))
  | .add, .lst _ a, .lst _ b => when' (decide (a.length + b.length ≤ sizeLine)) (.lst true (a ++ b))
  | .add, .str a, .str b => when' (decide (a.length + b.length ≤ sizeLine)) (.str (a ++ b))
  | .sub, .int a, .int b => some (.int (a - b))
  | .mul, .int a, .int b => when' (bigMul a b) (.int (a * b))
  | .mul, .lst _ a, .int k => when' (okMulL a.length k) (.lst true (List.replicate k.toNat a).flatten)
  | .mul, .tup a, .int k => when' (okMulT a.length k) (.tup (List.replicate k.toNat a).flatten)
  | .fdiv, .int a, .int b => when' (okDiv b) (.int (a / b))
  | .mod, .int a, .int b => when' (decide (0 < b)) (.int (a % b))
  | .pow, .int a, .int b => when' (okPow a b) (.int (a ^ b.toNat))
  | .lt, .int a, .int b => some (.bl (decide (a < b)))
  | .le, .int a, .int b => some (.bl (decide (a ≤ b)))
  | .gt, .int a, .int b => some (.bl (decide (b < a)))
  | .ge, .int a, .int b => some (.bl (decide (b ≤ a)))
  | .eq, .str a, .str b => some (.bl (a == b))
  | .ne, .str a, .str b => some (.bl (!(a == b)))
  | .eq, a, b => when' (plain a && plain b && SeqAt.shaped (py a) && SeqAt.shaped (py b)) (.bl (PyData.eqv (py a) (py b)))
  | .ne, a, b => when' (plain a && plain b && SeqAt.shaped (py a) && SeqAt.shaped (py b)) (.bl (!PyData.eqv (py a) (py b)))
  | .isN, .non, .non => some (.bl true)
  | .isN, _, .non => some (.bl false)
  | .notN, .non, .non => some (.bl false)
  | .notN, _, .non => some (.bl true)
  | _, _, _ => none

@[simp] def isTy : Ty → D → Bool
  | .int, .int _ => true
  | .int, .bl _ => true
  | .bool, .bl _ => true
  | .str, .str _ => true
  | .list, .lst _ _ => true
  | .tuple, .tup _ => true
  | .dict, .dic _ _ _ => true
  | _, _ => false
def intsD : List D → Option (List Int)
  | [] => some []
  | .int i :: r => (intsD r).map (i :: ·)
  | _ :: _ => none
def items : D → Option (List D)
  | .tup xs => some xs
  | .lst _ xs => some xs
  | _ => none
@[simp] noncomputable def b1 : Blt → D → Option D
  | .len, .tup xs => some (.int xs.length)
  | .len, .lst _ xs => some (.int xs.length)
  | .len, .str x => when' (decide (x.length ≤ sizeLine)) (.int x.length)
  | .abs, .int i => some (.int (if i < 0 then -i else i))
  | .int, .int i => some (.int i)
  | .int, .bl b => some (.int (if b then 1 else 0))
  | .sum, .lst _ xs => (intsD xs).map fun l => .int l.sum
  | .sum, .tup xs => (intsD xs).map fun l => .int l.sum
  | .repr, d => when' (PyData.showable (py d) && decide ((PyData.shown (py d)).length ≤ sizeLine) && decide (PyData.depth (py d) ≤ 40)) (.str (PyData.shown (py d)))
  | .tuple, .tup xs => some (.tup xs)
  | .tuple, .lst _ xs => some (.tup xs)
  | .list, .tup xs => some (.lst true xs)
  | .list, .lst _ xs => some (.lst true xs)
  | .lrev, .lst _ xs => some (.lst true xs.reverse)
  | .isi t, d => some (.bl (isTy t d))
  | _, _ => none
@[simp] def b2 : Blt → D → D → Option D
  | .min, .int i, .int j => some (.int (if j < i then j else i))
  | .max, .int i, .int j => some (.int (if j > i then j else i))
  | _, _, _ => none
@[simp] noncomputable def fb (f : Blt) : List D → Option D
  | [a] => b1 f a
  | [a, b] => b2 f a b
  | _ => none
@[simp] def fix' : D → D → Option D
  | .tup xs, .int i => (ixN xs.length i).bind fun j => xs[j]?
  | .lst _ xs, .int i => (ixN xs.length i).bind fun j => xs[j]?
  | _, _ => none
@[simp] def fsl (lo hi : Option Int) : D → Option D
  | .tup xs => some (.tup (cut xs lo hi))
  | .lst _ xs => some (.lst true (cut xs lo hi))
  | _ => none
@[simp] def frev : D → Option D
  | .tup xs => some (.tup xs.reverse)
  | .lst _ xs => some (.lst true xs.reverse)
  | _ => none
@[simp] def ap2 (f : D → D → Option D) : List D → Option D
  | [a, b] => f a b
  | _ => none
@[simp] def ap1 (f : D → Option D) : List D → Option D
  | [a] => f a
  | _ => none
noncomputable def frng : List D → Option (List D)
  | [.int j] => when' (okRng j) ((List.range j.toNat).map fun k => D.int (0 + (k : Nat)))
  | [.int i, .int j] => when' (okRng i && okRng j) ((List.range (j - i).toNat).map fun k => D.int (i + (k : Nat)))
  | _ => none

/-! ### the state -/
def get (E : Env) (i : Nat) : Option D := (E[i]?).bind id
@[simp] def fetch1 (E : Env) : Opd → Option D
  | .sl i => (get E i).map fz
  | .v d => some (fz d)
@[simp] def fetch (E : Env) : List Opd → Option (List D)
  | [] => some []
  | o :: r => (fetch1 E o).bind fun d => (fetch E r).map (d :: ·)
@[simp] def frz1 (E : Env) : Opd → Env
  | .sl i => E.set i ((get E i).map fz)
  | .v _ => E
@[simp] def frzs (E : Env) : List Opd → Env
  | [] => E
  | o :: r => frzs (frz1 E o) r
@[simp] def take (E : Env) : Opd → Option (D × Env)
  | .sl i => (get E i).map fun d => (fz d, E.set i (some (fz d)))
  | .v d => some (d, E)
@[simp] def takes (E : Env) : List Opd → Option (List D × Env)
  | [] => some ([], E)
  | o :: r => (take E o).bind fun q => (takes q.2 r).map fun z => (q.1 :: z.1, z.2)
def appl (f : List D → Option D) (os : List Opd) (E : Env) : Option (Opd × Env) :=
  (fetch E os).bind fun ds => (f ds).map fun r => (.v r, if nof r = true then E else frzs E os)
def asPart (b : Bool) (q : Opd × Env) : Option (Option Int × Env) := (fetch1 q.2 q.1).bind fun d => match b, d with
  | true, .int i => some (some i, q.2)
  | false, .non => some (none, q.2)
  | _, _ => none
@[simp] def boolOf (E : Env) (o : Opd) : Option Bool :=
  (fetch1 E o).bind fun d => match d with
    | .bl b => some b
    | _ => none
def wipe (E : Env) : List Nat → Env
  | [] => E
  | i :: r => (wipe E r).set i none
def asgs : List Nat → List D → Env → Option Env
  | [], [], E => some E
  | i :: r, d :: ds, E => asgs r ds (E.set i (some d))
  | _, _, _ => none
def asg (tg : Tg) (d : D) (E : Env) : Option Env := match tg with
  | .nm i => some (E.set i (some d))
  | .tp l => match d with
    | .tup ds => asgs l ds E
    | _ => none

/-- an operand that may be read twice -/
def twice : Opd → Bool
  | .sl _ => true
  | .v d => lf d
abbrev Calls := Nat → List D → Option (D × Option D)
/-- a call: all arguments frozen, but at m a slot of ours that the callee may change -/
@[simp] def callF (F : Calls) (f : Nat) (m : Option Nat) (os : List Opd) (E : Env) : Option (Opd × Env) := match m with
  | none => (fetch E os).bind fun ds => (F f ds).map fun q => (.v q.1, if nof q.1 = true then E else frzs E os)
  | some k => match os[k]? with
    | some (.sl i) => (get E i).bind fun d => (fetch (E.set i none) (os.take k)).bind fun as => (fetch (E.set i none) (os.drop (k + 1))).bind fun bs => (F f (as ++ d :: bs)).bind fun q => q.2.map fun d' =>
        (.v q.1, (if (nof q.1 && nof d') = true then E.set i none else frzs (E.set i none) (os.take k ++ os.drop (k + 1))).set i (some d'))
    | _ => none
/-- the arguments in the parameters' order: the first ones as they stand, the named ones at their places -/
@[simp] def place {α : Type} (z : α) (as : List α) (ks : List Nat) (bs : List α) : List α := as ++ (List.range bs.length).map fun j => bs.getD (ks.idxOf (as.length + j)) z

def goComp (c : Env → Option (Opd × Env)) (e : Env → Option (Opd × Env)) (own : List Nat) (tg : Tg) : List D → Env → Option (List D × Env)
  | [], E => some ([], E)
  | x :: r, E => (asg tg x (wipe E own)).bind fun E1 => (c E1).bind fun q => (boolOf q.2 q.1).bind fun b =>
      if b = true then (e q.2).bind fun q2 => (take q2.2 q2.1).bind fun q3 => (goComp c e own tg r q3.2).map fun z => (q3.1 :: z.1, z.2)
      else goComp c e own tg r q.2
def restore (E : Env) : List Nat → List (Option D) → Env
  | i :: r, d :: ds => (restore E r ds).set i d
  | _, _ => E
def enumD : Nat → List D → List D
  | _, [] => []
  | k, x :: r => .tup [.int k, x] :: enumD (k + 1) r

mutual
noncomputable def ev (F : Calls) (Gl : Nat → D) : Ex → Env → Option (Opd × Env)
  | .var i => fun E => (get E i).map fun _ => (.sl i, E)
  | .con d => fun E => some (.v d, E)
  | .glo g => fun E => some (.v (Gl g), E)
  | .op o a b => fun E => (ev F Gl a E).bind fun x => (ev F Gl b x.2).bind fun y => appl (ap2 (f2 o)) [x.1, y.1] y.2
  | .chn o o' a b c => fun E => (ev F Gl a E).bind fun x => (ev F Gl b x.2).bind fun y => (when' (twice y.1) ()).bind fun _ => (appl (ap2 (f2 o)) [x.1, y.1] y.2).bind fun r => (boolOf r.2 r.1).bind fun t =>
      if t = true then (ev F Gl c r.2).bind fun z => appl (ap2 (f2 o')) [y.1, z.1] z.2 else some (.v (.bl false), r.2)
  | .neg a => fun E => (ev F Gl a E).bind fun x => appl (ap1 fun d => match d with | .int i => some (.int (-i)) | _ => none) [x.1] x.2
  | .nt a => fun E => (ev F Gl a E).bind fun x => (boolOf x.2 x.1).map fun b => (.v (.bl (!b)), x.2)
  | .an a b => fun E => (ev F Gl a E).bind fun x => (boolOf x.2 x.1).bind fun t =>
      if t = true then (ev F Gl b x.2).bind fun y => (boolOf y.2 y.1).map fun u => (.v (.bl u), y.2) else some (.v (.bl false), x.2)
  | .or a b => fun E => (ev F Gl a E).bind fun x => (boolOf x.2 x.1).bind fun t =>
      if t = true then some (.v (.bl true), x.2) else (ev F Gl b x.2).bind fun y => (boolOf y.2 y.1).map fun u => (.v (.bl u), y.2)
  | .ife c a b => fun E => (ev F Gl c E).bind fun x => (boolOf x.2 x.1).bind fun t => if t = true then ev F Gl a x.2 else ev F Gl b x.2
  | .blt f as => fun E => (evs F Gl as E).bind fun x => appl (fb f) x.1 x.2
  | .call f m as => fun E => (evs F Gl as E).bind fun x => callF F f m x.1 x.2
  | .callK f m as ks bs => fun E => (evs F Gl as E).bind fun x => (evs F Gl bs x.2).bind fun y => callF F f m (place (.v .non) x.1 ks y.1) y.2
  | .tup es => fun E => (evs F Gl es E).bind fun x => (takes x.2 x.1).map fun z => (.v (.tup z.1), z.2)
  | .lst es => fun E => (evs F Gl es E).bind fun x => (takes x.2 x.1).map fun z => (.v (.lst true z.1), z.2)
  | .dic ks ds => fun E => some (.v (.dic true ks ds), E)
  | .ix a i => fun E => (ev F Gl a E).bind fun x => (ev F Gl i x.2).bind fun y => appl (ap2 fix') [x.1, y.1] y.2
  | .sli l h a lo hi => fun E => (ev F Gl a E).bind fun x => ((ev F Gl lo x.2).bind (asPart l)).bind fun y => ((ev F Gl hi y.2).bind (asPart h)).bind fun z => appl (ap1 (fsl y.1 z.1)) [x.1] z.2
  | .rev a => fun E => (ev F Gl a E).bind fun x => appl (ap1 frev) [x.1] x.2
  | .comp own tg it c e => fun E => (evIt F Gl it E).bind fun q => (goComp (ev F Gl c) (ev F Gl e) own tg q.1 q.2).bind fun z =>
      when' (decide (z.1.length ≤ sizeLine)) (.v (.lst true z.1), restore z.2 own (own.map fun i => (q.2[i]?).bind id))
  | .app i e => fun E => (get E i).bind fun d0 => match d0 with
      | .lst _ _ => (ev F Gl e E).bind fun x => (take x.2 x.1).bind fun q => (get q.2 i).bind fun d => match d with
        | .lst true xs => when' (decide (xs.length < sizeLine)) (.v .non, q.2.set i (some (.lst true (xs ++ [q.1]))))
        | _ => none
      | _ => none
  | .popL i => fun E => (get E i).bind fun d => match d with
      | .lst true xs => xs.getLast?.map fun x => (.v x, E.set i (some (.lst true xs.dropLast)))
      | _ => none
  | .popA i j => fun E => (get E i).bind fun d => match d with
      | .lst true xs => (xs[j]?).bind fun d2 => match d2 with
        | .lst true ys => ys.getLast?.map fun y => (.v y, E.set i (some (.lst true (xs.set j (.lst true ys.dropLast)))))
        | _ => none
      | _ => none
  | .isi t a => fun E => (ev F Gl a E).bind fun x => appl (ap1 (b1 (.isi t))) [x.1] x.2
  | .lrev a => fun E => (ev F Gl a E).bind fun x => appl (ap1 (b1 .lrev)) [x.1] x.2
  | .sc e => fun E => (ev F Gl e (E.map (·.map fz))).bind fun x => match x.1 with
      | .v d => if nof d = true then some (.v d, E) else none
      | _ => none
@[simp] noncomputable def evs (F : Calls) (Gl : Nat → D) : Exs → Env → Option (List Opd × Env)
  | .nil => fun E => some ([], E)
  | .cons e r => fun E => (ev F Gl e E).bind fun x => (evs F Gl r x.2).map fun y => (x.1 :: y.1, y.2)
noncomputable def evIt (F : Calls) (Gl : Nat → D) : It → Env → Option (List D × Env)
  | .seq a => fun E => (ev F Gl a E).bind fun x => (fetch1 x.2 x.1).bind fun d => (items d).map fun l => (l, frz1 x.2 x.1)
  | .rng as => fun E => (evs F Gl as E).bind fun x => (fetch x.2 x.1).bind fun ds => (frng ds).map fun l => (l, x.2)
  | .enu a => fun E => (ev F Gl a E).bind fun x => (fetch1 x.2 x.1).bind fun d => (items d).map fun l => (enumD 0 l, frz1 x.2 x.1)
  | .rev a => fun E => (ev F Gl a E).bind fun x => (fetch1 x.2 x.1).bind fun d => (items d).map fun l => (l.reverse, frz1 x.2 x.1)
end

inductive Fl where
  | nx | brk | cnt | ret (d : D)
def goFor (body : Env → Option (Fl × Env)) (tg : Tg) : List D → Env → Option (Fl × Env)
  | [], E => some (.nx, E)
  | x :: r, E => (asg tg x E).bind fun E1 => (body E1).bind fun q => match q.1 with
      | .nx => goFor body tg r q.2
      | .cnt => goFor body tg r q.2
      | .brk => some (.nx, q.2)
      | .ret d => some (.ret d, q.2)
def goWh (c : Env → Option (Opd × Env)) (body : Env → Option (Fl × Env)) : Nat → Env → Option (Fl × Env)
  | 0, _ => none
  | n + 1, E => (c E).bind fun x => (boolOf x.2 x.1).bind fun t =>
      if t = true then (body x.2).bind fun q => match q.1 with
        | .nx => goWh c body n q.2
        | .cnt => goWh c body n q.2
        | .brk => some (.nx, q.2)
        | .ret d => some (.ret d, q.2)
      else some (.nx, x.2)
open Classical in
noncomputable def lim {α : Type} (f : Nat → Option α) : Option α := if h : ∃ n, (f n).isSome = true then f (choose h) else none

mutual
noncomputable def exec (F : Calls) (Gl : Nat → D) : St → Env → Option (Fl × Env)
  | .asg i e => fun E => (ev F Gl e E).bind fun x => (take x.2 x.1).map fun q => (.nx, q.2.set i (some q.1))
  | .asgT l e => fun E => (ev F Gl e E).bind fun x => (take x.2 x.1).bind fun q => (asg (.tp l) q.1 q.2).map fun E' => (.nx, E')
  | .par i j a b => fun E => (ev F Gl a E).bind fun x => (ev F Gl b x.2).bind fun y => (take y.2 x.1).bind fun q => (take q.2 y.1).map fun z => (.nx, (z.2.set i (some q.1)).set j (some z.1))
  | .six i k e => fun E => (get E i).bind fun _ => (ev F Gl e E).bind fun x => (ev F Gl k x.2).bind fun y => (fetch1 y.2 y.1).bind fun n => (take y.2 x.1).bind fun q => (get q.2 i).bind fun d => match d, n with
      | .lst true xs, .int j => (ixN xs.length j).map fun m => (.nx, q.2.set i (some (.lst true (xs.set m q.1))))
      | _, _ => none
  | .ex e => fun E => (ev F Gl e E).map fun x => (.nx, x.2)
  | .ife c a b => fun E => (ev F Gl c E).bind fun x => (boolOf x.2 x.1).bind fun t => if t = true then execs F Gl a x.2 else execs F Gl b x.2
  | .wh c b => fun E => lim fun n => goWh (ev F Gl c) (execs F Gl b) n E
  | .fr tg it b => fun E => (evIt F Gl it E).bind fun q => goFor (execs F Gl b) tg q.1 q.2
  | .ret e => fun E => (ev F Gl e E).bind fun x => match x.1 with
      | .sl i => (get x.2 i).map fun d => (.ret d, x.2.set i none)
      | .v d => some (.ret d, x.2)
  | .brk => fun E => some (.brk, E)
  | .cnt => fun E => some (.cnt, E)
  | .pass => fun E => some (.nx, E)
noncomputable def execs (F : Calls) (Gl : Nat → D) : Sts → Env → Option (Fl × Env)
  | .nil => fun E => some (.nx, E)
  | .cons s r => fun E => (exec F Gl s E).bind fun q => match q.1 with
      | .nx => execs F Gl r q.2
      | f => some (f, q.2)
end

/-! ### defs -/
structure Df where
  nm : Str
  ns : List Str
  np : Nat
  m : Option Nat
  bd : Sts
structure Pg where
  ds : List Df
  gl : Nat → D
@[simp] def start (d : Df) (as : List D) : Env := as.map some ++ List.replicate (d.ns.length - d.np) none
/-- what a call hands back: the value, and what has become of the argument at m -/
@[simp] def handed (m : Option Nat) (r : D) (E : Env) : Option (D × Option D) := match m with
  | none => some (r, none)
  | some k => (get E k).map fun d => (r, some d)
noncomputable def runD (F : Calls) (gl : Nat → D) (ex : Sts → Env → Option (Fl × Env)) (d : Df) (as : List D) : Option (D × Option D) :=
  if as.length = d.np then (ex d.bd (start d as)).bind fun q => match q.1 with
    | .nx => handed d.m .non q.2
    | .ret r => handed d.m r q.2
    | _ => none
  else none
noncomputable def runP (P : Pg) : Nat → Calls
  | 0 => fun _ _ => none
  | n + 1 => fun f as => (P.ds[f]?).bind fun d => runD (runP P n) P.gl (execs (runP P n) P.gl) d as
end Fr
end
section
set_option linter.all false
set_option autoImplicit true
/-! How data lies in the abstract heap. -/
namespace Fr
open PySem L2
abbrev Adr := PySem.Addr

mutual
def Rep (K : PySem.W.Frag) (Z : Adr → Prop) (H : Hp) : D → V → List Adr → Prop
  | .non => fun v O => v = .non ∧ O = []
  | .bl b => fun v O => v = .bl b ∧ O = []
  | .int i => fun v O => v = .int i ∧ O = []
  | .str x => fun v O => v = .str x ∧ O = []
  | .tup ds => fun v O => ∃ p vs, v = .ref p ∧ SqT K H p vs ∧ RepL K Z H ds vs O
  | .lst o ds => fun v O => match o with
    | true => ∃ p vs O', v = .ref p ∧ H p = some (.lst vs) ∧ O = p :: O' ∧ RepL K Z H ds vs O'
    | false => ∃ p vs, v = .ref p ∧ Rd H p (.lst vs) ∧ (∀ xs, H p = some (.lst xs) → Z p) ∧ O = [] ∧ RepL K Z H ds vs []
  | .dic o ks ds => fun v O => match o with
    | true => ∃ p vs O', v = .ref p ∧ H p = some (.dK (ks.zip vs)) ∧ ks.length = vs.length ∧ O = p :: O' ∧ RepL K Z H ds vs O'
    | false => ∃ p vs, v = .ref p ∧ Rd H p (.dK (ks.zip vs)) ∧ ks.length = vs.length ∧ (∀ xs, H p = some (.dK xs) → Z p) ∧ O = [] ∧ RepL K Z H ds vs []
def RepL (K : PySem.W.Frag) (Z : Adr → Prop) (H : Hp) : List D → List V → List Adr → Prop
  | [] => fun vs O => vs = [] ∧ O = []
  | d :: r => fun vs O => ∃ v ws O1 O2, vs = v :: ws ∧ O = O1 ++ O2 ∧ Rep K Z H d v O1 ∧ RepL K Z H r ws O2
end

/-- a list or a dict stands there -/
def Chg (H : Hp) (p : Adr) : Prop := (∃ xs, H p = some (.lst xs)) ∨ ∃ kvs, H p = some (.dK kvs)

section
variable {K : PySem.W.Frag} {Z Z' : Adr → Prop} {H H' : Hp}
theorem SqT.keep {p : Adr} {xs : List V} (h : SqT K H p xs) (hk : ∀ p o, H p = some o → ¬ Chg H p → H' p = some o) : SqT K H' p xs := by
  rcases h with (h | ⟨o, h⟩) | h
  · refine .inl (.inl (hk _ _ h ?_))
    rintro (⟨_, e⟩ | ⟨_, e⟩) <;> (rw [h] at e; cases e)
  · refine .inl (.inr ⟨o, hk _ _ h ?_⟩)
    rintro (⟨_, e⟩ | ⟨_, e⟩) <;> (rw [h] at e; cases e)
  · exact .inr h

/-- W is what has changed -/
structure Stays (Z : Adr → Prop) (H H' : Hp) (Z' : Adr → Prop) (W : Adr → Prop) : Prop where
  z : ∀ p, Z p → Z' p
  k : ∀ p o, H p = some o → ¬ W p → H' p = some o
  w : ∀ p, W p → Chg H p ∧ ¬ Z p

mutual
theorem Rep.keep {W : Adr → Prop} (S : Stays Z H H' Z' W) : ∀ (d : D) {v : V} {O : List Adr}, Rep K Z H d v O → (∀ p ∈ O, ¬ W p) → Rep K Z' H' d v O
  | .non, _, _, h, _ => h
  | .bl _, _, _, h, _ => h
  | .int _, _, _, h, _ => h
  | .str _, _, _, h, _ => h
  | .tup ds, v, O, h, n => by
    obtain ⟨p, vs, rfl, ht, hl⟩ := h
    exact ⟨p, vs, rfl, SqT.keep ht fun p o e c => S.k p o e fun w => c (S.w p w).1, RepL.keep S ds hl n⟩
  | .lst true ds, v, O, h, n => by
    obtain ⟨p, vs, O', rfl, hp, rfl, hl⟩ := h
    exact ⟨p, vs, O', rfl, S.k _ _ hp (n p (by simp)), rfl, RepL.keep S ds hl fun q hq => n q (by simp [hq])⟩
  | .lst false ds, v, O, h, n => by
    obtain ⟨p, vs, rfl, hp, hz, rfl, hl⟩ := h
    have hr : Rd H' p (.lst vs) ∧ (∀ xs, H' p = some (.lst xs) → Z' p) := by
      rcases hp with e | ⟨o, e⟩
      · have e' := S.k _ _ e fun w => (S.w p w).2 (hz _ e)
        exact ⟨.inl e', fun xs _ => S.z _ (hz _ e)⟩
      · have e' := S.k _ _ e fun w => by rcases (S.w p w).1 with ⟨_, q⟩ | ⟨_, q⟩ <;> (rw [e] at q; cases q)
        exact ⟨.inr ⟨o, e'⟩, fun xs q => by rw [e'] at q; cases q⟩
    exact ⟨p, vs, rfl, hr.1, hr.2, rfl, RepL.keep S ds hl (by simp)⟩
  | .dic true ks ds, v, O, h, n => by
    obtain ⟨p, vs, O', rfl, hp, hl0, rfl, hl⟩ := h
    exact ⟨p, vs, O', rfl, S.k _ _ hp (n p (by simp)), hl0, rfl, RepL.keep S ds hl fun q hq => n q (by simp [hq])⟩
  | .dic false ks ds, v, O, h, n => by
    obtain ⟨p, vs, rfl, hp, hl0, hz, rfl, hl⟩ := h
    have hr : Rd H' p (.dK (ks.zip vs)) ∧ (∀ xs, H' p = some (.dK xs) → Z' p) := by
      rcases hp with e | ⟨o, e⟩
      · have e' := S.k _ _ e fun w => (S.w p w).2 (hz _ e)
        exact ⟨.inl e', fun xs _ => S.z _ (hz _ e)⟩
      · have e' := S.k _ _ e fun w => by rcases (S.w p w).1 with ⟨_, q⟩ | ⟨_, q⟩ <;> (rw [e] at q; cases q)
        exact ⟨.inr ⟨o, e'⟩, fun xs q => by rw [e'] at q; cases q⟩
    exact ⟨p, vs, rfl, hr.1, hl0, hr.2, rfl, RepL.keep S ds hl (by simp)⟩
theorem RepL.keep {W : Adr → Prop} (S : Stays Z H H' Z' W) : ∀ (ds : List D) {vs : List V} {O : List Adr}, RepL K Z H ds vs O → (∀ p ∈ O, ¬ W p) → RepL K Z' H' ds vs O
  | [], _, _, h, _ => h
  | d :: r, vs, O, h, n => by
    obtain ⟨v, ws, O1, O2, rfl, rfl, h1, h2⟩ := h
    exact ⟨v, ws, O1, O2, rfl, rfl, Rep.keep S d h1 fun p hp => n p (by simp [hp]), RepL.keep S r h2 fun p hp => n p (by simp [hp])⟩
end

theorem Stays.ext (hz : ∀ p, Z p → Z' p) (he : Same H H') : Stays Z H H' Z' (fun _ => False) := ⟨hz, fun p o e _ => he p o e, fun _ w => w.elim⟩
theorem Rep.ext {d : D} {v : V} {O : List Adr} (h : Rep K Z H d v O) (hz : ∀ p, Z p → Z' p) (he : Same H H') : Rep K Z' H' d v O := Rep.keep (Stays.ext hz he) d h fun _ _ w => w
theorem RepL.ext {ds : List D} {vs : List V} {O : List Adr} (h : RepL K Z H ds vs O) (hz : ∀ p, Z p → Z' p) (he : Same H H') : RepL K Z' H' ds vs O := RepL.keep (Stays.ext hz he) ds h fun _ _ w => w

mutual
theorem Rep.own : ∀ (d : D) {v : V} {O : List Adr}, Rep K Z H d v O → ∀ p ∈ O, Chg H p
  | .non, _, _, h, _, hp => by rw [h.2] at hp; cases hp
  | .bl _, _, _, h, _, hp => by rw [h.2] at hp; cases hp
  | .int _, _, _, h, _, hp => by rw [h.2] at hp; cases hp
  | .str _, _, _, h, _, hp => by rw [h.2] at hp; cases hp
  | .tup ds, v, O, h, q, hq => by
    obtain ⟨p, vs, rfl, ht, hl⟩ := h
    exact RepL.own ds hl q hq
  | .lst true ds, v, O, h, q, hq => by
    obtain ⟨p, vs, O', rfl, hp, rfl, hl⟩ := h
    rcases List.mem_cons.mp hq with e | e
    · subst e; exact .inl ⟨_, hp⟩
    · exact RepL.own ds hl q e
  | .lst false ds, v, O, h, q, hq => by
    obtain ⟨p, vs, rfl, hp, hz, rfl, hl⟩ := h
    cases hq
  | .dic true ks ds, v, O, h, q, hq => by
    obtain ⟨p, vs, O', rfl, hp, hl0, rfl, hl⟩ := h
    rcases List.mem_cons.mp hq with e | e
    · subst e; exact .inr ⟨_, hp⟩
    · exact RepL.own ds hl q e
  | .dic false ks ds, v, O, h, q, hq => by
    obtain ⟨p, vs, rfl, hp, hl0, hz, rfl, hl⟩ := h
    cases hq
theorem RepL.own : ∀ (ds : List D) {vs : List V} {O : List Adr}, RepL K Z H ds vs O → ∀ p ∈ O, Chg H p
  | [], _, _, h, _, hp => by rw [h.2] at hp; cases hp
  | d :: r, vs, O, h, q, hq => by
    obtain ⟨v, ws, O1, O2, rfl, rfl, h1, h2⟩ := h
    rcases List.mem_append.mp hq with e | e
    · exact Rep.own d h1 q e
    · exact RepL.own r h2 q e
end

mutual
theorem Rep.frz : ∀ (d : D) {v : V} {O : List Adr}, Rep K Z H d v O → (∀ p, Z p → Z' p) → (∀ p ∈ O, Z' p) → Rep K Z' H (fz d) v []
  | .non, _, _, h, _, _ => ⟨h.1, rfl⟩
  | .bl _, _, _, h, _, _ => ⟨h.1, rfl⟩
  | .int _, _, _, h, _, _ => ⟨h.1, rfl⟩
  | .str _, _, _, h, _, _ => ⟨h.1, rfl⟩
  | .tup ds, v, O, h, z, n => by
    obtain ⟨p, vs, rfl, ht, hl⟩ := h
    exact ⟨p, vs, rfl, ht, RepL.frz ds hl z n⟩
  | .lst true ds, v, O, h, z, n => by
    obtain ⟨p, vs, O', rfl, hp, rfl, hl⟩ := h
    exact ⟨p, vs, rfl, .inl hp, fun _ _ => n p (by simp), rfl, RepL.frz ds hl z fun q hq => n q (by simp [hq])⟩
  | .lst false ds, v, O, h, z, n => by
    obtain ⟨p, vs, rfl, hp, hz, rfl, hl⟩ := h
    exact ⟨p, vs, rfl, hp, fun xs e => z _ (hz xs e), rfl, RepL.frz ds hl z (by simp)⟩
  | .dic true ks ds, v, O, h, z, n => by
    obtain ⟨p, vs, O', rfl, hp, hl0, rfl, hl⟩ := h
    exact ⟨p, vs, rfl, .inl hp, hl0, fun _ _ => n p (by simp), rfl, RepL.frz ds hl z fun q hq => n q (by simp [hq])⟩
  | .dic false ks ds, v, O, h, z, n => by
    obtain ⟨p, vs, rfl, hp, hl0, hz, rfl, hl⟩ := h
    exact ⟨p, vs, rfl, hp, hl0, fun xs e => z _ (hz xs e), rfl, RepL.frz ds hl z (by simp)⟩
theorem RepL.frz : ∀ (ds : List D) {vs : List V} {O : List Adr}, RepL K Z H ds vs O → (∀ p, Z p → Z' p) → (∀ p ∈ O, Z' p) → RepL K Z' H (fzs ds) vs []
  | [], _, _, h, _, _ => ⟨h.1, rfl⟩
  | d :: r, vs, O, h, z, n => by
    obtain ⟨v, ws, O1, O2, rfl, rfl, h1, h2⟩ := h
    exact ⟨v, ws, [], [], rfl, rfl, Rep.frz d h1 z fun p hp => n p (by simp [hp]), RepL.frz r h2 z fun p hp => n p (by simp [hp])⟩
end

mutual
theorem Rep.unz : ∀ (d : D) {v : V} {O : List Adr}, Rep K Z H d v O → nof d = true → Rep K Z' H d v O
  | .non, _, _, h, _ => h
  | .bl _, _, _, h, _ => h
  | .int _, _, _, h, _ => h
  | .str _, _, _, h, _ => h
  | .tup ds, v, O, h, n => by
    obtain ⟨p, vs, rfl, ht, hl⟩ := h
    exact ⟨p, vs, rfl, ht, RepL.unz ds hl n⟩
  | .lst true ds, v, O, h, n => by
    obtain ⟨p, vs, O', rfl, hp, rfl, hl⟩ := h
    exact ⟨p, vs, O', rfl, hp, rfl, RepL.unz ds hl (by simpa [nof] using n)⟩
  | .lst false ds, v, O, h, n => by simp [nof] at n
  | .dic true ks ds, v, O, h, n => by
    obtain ⟨p, vs, O', rfl, hp, hl0, rfl, hl⟩ := h
    exact ⟨p, vs, O', rfl, hp, hl0, rfl, RepL.unz ds hl (by simpa [nof] using n)⟩
  | .dic false ks ds, v, O, h, n => by simp [nof] at n
theorem RepL.unz : ∀ (ds : List D) {vs : List V} {O : List Adr}, RepL K Z H ds vs O → nofs ds = true → RepL K Z' H ds vs O
  | [], _, _, h, _ => h
  | d :: r, vs, O, h, n => by
    obtain ⟨v, ws, O1, O2, rfl, rfl, h1, h2⟩ := h
    simp only [nofs, Bool.and_eq_true] at n
    exact ⟨v, ws, O1, O2, rfl, rfl, Rep.unz d h1 n.1, RepL.unz r h2 n.2⟩
end

mutual
theorem fz_fz : ∀ d : D, fz (fz d) = fz d
  | .non => rfl | .bl _ => rfl | .int _ => rfl | .str _ => rfl
  | .tup ds => by simp only [fz]; rw [fzs_fzs ds]
  | .lst _ ds => by simp only [fz]; rw [fzs_fzs ds]
  | .dic _ _ ds => by simp only [fz]; rw [fzs_fzs ds]
theorem fzs_fzs : ∀ ds : List D, fzs (fzs ds) = fzs ds
  | [] => rfl
  | d :: r => by simp only [fzs]; rw [fz_fz d, fzs_fzs r]
end

theorem RepL.len : ∀ {ds : List D} {vs : List V} {O : List Adr}, RepL K Z H ds vs O → ds.length = vs.length
  | [], _, _, h => by rw [h.1]; rfl
  | d :: r, vs, O, h => by
    obtain ⟨v, ws, O1, O2, rfl, rfl, h1, h2⟩ := h
    simp [RepL.len h2]
theorem RepL.app : ∀ {ds ds' : List D} {vs vs' : List V} {O O' : List Adr}, RepL K Z H ds vs O → RepL K Z H ds' vs' O' → RepL K Z H (ds ++ ds') (vs ++ vs') (O ++ O')
  | [], _, _, _, _, _, h, h' => by rw [h.1, h.2]; exact h'
  | d :: r, ds', vs, vs', O, O', h, h' => by
    obtain ⟨v, ws, O1, O2, rfl, rfl, h1, h2⟩ := h
    exact ⟨v, ws ++ vs', O1, O2 ++ O', rfl, by simp, h1, RepL.app h2 h'⟩
theorem RepL.split : ∀ {ds ds' : List D} {vs : List V} {O : List Adr}, RepL K Z H (ds ++ ds') vs O → ∃ vs1 vs2 O1 O2, vs = vs1 ++ vs2 ∧ O = O1 ++ O2 ∧ RepL K Z H ds vs1 O1 ∧ RepL K Z H ds' vs2 O2
  | [], _, vs, O, h => ⟨[], vs, [], O, rfl, rfl, ⟨rfl, rfl⟩, h⟩
  | d :: r, ds', vs, O, h => by
    obtain ⟨v, ws, O1, O2, rfl, rfl, h1, h2⟩ := h
    obtain ⟨v1, v2, P1, P2, rfl, rfl, q1, q2⟩ := RepL.split h2
    exact ⟨v :: v1, v2, O1 ++ P1, P2, rfl, by simp, ⟨v, v1, O1, P1, rfl, rfl, h1, q1⟩, q2⟩
theorem RepL.get : ∀ {ds : List D} {vs : List V} {O : List Adr} {i : Nat} {d : D}, RepL K Z H ds vs O → ds[i]? = some d → ∃ v O', vs[i]? = some v ∧ Rep K Z H d v O' ∧ ∀ p ∈ O', p ∈ O
  | [], _, _, _, _, _, e => by simp at e
  | d :: r, vs, O, 0, d', h, e => by
    obtain ⟨v, ws, O1, O2, rfl, rfl, h1, h2⟩ := h
    simp at e; subst e
    exact ⟨v, O1, rfl, h1, fun p hp => by simp [hp]⟩
  | d :: r, vs, O, i + 1, d', h, e => by
    obtain ⟨v, ws, O1, O2, rfl, rfl, h1, h2⟩ := h
    obtain ⟨v', O', e1, h3, h4⟩ := RepL.get (i := i) h2 (by simpa using e)
    exact ⟨v', O', by simpa using e1, h3, fun p hp => by simp [h4 p hp]⟩
/-- frozen data, all of it, in parts -/
theorem RepL.nil_of {ds : List D} {vs : List V} (h : RepL K Z H ds vs []) : ∀ {i : Nat} {d : D}, ds[i]? = some d → ∃ v, vs[i]? = some v ∧ Rep K Z H d v [] := fun {i d} e => by
  obtain ⟨v, O', e1, h1, h2⟩ := h.get e
  have : O' = [] := List.eq_nil_iff_forall_not_mem.mpr fun p hp => by cases h2 p hp
  subst this
  exact ⟨v, e1, h1⟩
theorem RepL.all : ∀ {ds : List D} {vs : List V}, ds.length = vs.length → (∀ (i : Nat) d v, ds[i]? = some d → vs[i]? = some v → Rep K Z H d v []) → RepL K Z H ds vs []
  | [], [], _, _ => ⟨rfl, rfl⟩
  | [], _ :: _, e, _ => by simp at e
  | _ :: _, [], e, _ => by simp at e
  | d :: r, v :: ws, e, h => ⟨v, ws, [], [], rfl, rfl, h 0 d v rfl rfl, RepL.all (by simpa using e) fun i d v e1 e2 => h (i + 1) d v (by simpa using e1) (by simpa using e2)⟩
end
end Fr
end
section
set_option linter.all false
set_option autoImplicit true
/-! The state: slots and operands in hand, who owns what. -/
namespace Fr
open PySem L2
abbrev Cell := Option D × Option V
def cellRep (K : PySem.W.Frag) (Z : Adr → Prop) (H : Hp) : Cell → List Adr → Prop
  | (some d, some v), O => Rep K Z H d v O
  | (some _, none), _ => False
  | (none, _), O => O = []
def Cells (K : PySem.W.Frag) (Z : Adr → Prop) (H : Hp) : List Cell → List Adr → Prop
  | [], O => O = []
  | c :: r, O => ∃ O1 O2, O = O1 ++ O2 ∧ cellRep K Z H c O1 ∧ Cells K Z H r O2

/-- some of it, in any order -/
def Sub {α : Type} (a b : List α) : Prop := ∃ c, List.Perm a c ∧ List.Sublist c b
theorem Sub.refl {α : Type} (a : List α) : Sub a a := ⟨a, .refl a, .refl a⟩
theorem Sub.perm {α : Type} {a b : List α} (h : a.Perm b) : Sub a b := ⟨b, h, .refl b⟩
theorem Sub.sl {α : Type} {a b : List α} (h : a.Sublist b) : Sub a b := ⟨a, .refl a, h⟩
theorem Sub.mem {α : Type} {a b : List α} (h : Sub a b) {x : α} (hx : x ∈ a) : x ∈ b := by
  obtain ⟨c, p, s⟩ := h
  exact s.subset (p.subset hx)
theorem Sub.nodup {α : Type} {a b : List α} (h : Sub a b) (n : b.Nodup) : a.Nodup := by
  obtain ⟨c, p, s⟩ := h
  exact p.symm.nodup (s.nodup n)
theorem Sub.app {α : Type} {a b c d : List α} (h : Sub a b) (h' : Sub c d) : Sub (a ++ c) (b ++ d) := by
  obtain ⟨x, p, s⟩ := h
  obtain ⟨y, q, t⟩ := h'
  exact ⟨x ++ y, p.append q, s.append t⟩
theorem Sub.set {α : Type} : ∀ (l : List α) (i : Nat) (c : α) (t : List α), Sub (l.set i c ++ t) (l ++ c :: t)
  | [], _, c, t => ⟨t, .refl _, by simp⟩
  | a :: l, 0, c, t => ⟨l ++ c :: t, by
      simp only [List.set_cons_zero, List.cons_append]
      exact List.perm_middle.symm, by simp⟩
  | a :: l, i + 1, c, t => by
    obtain ⟨x, p, s⟩ := Sub.set l i c t
    exact ⟨a :: x, by simpa using p, by simpa using s⟩

section
variable {K : PySem.W.Frag} {Z Z' : Adr → Prop} {H H' : Hp}
theorem Cells.app : ∀ {a b : List Cell} {O O' : List Adr}, Cells K Z H a O → Cells K Z H b O' → Cells K Z H (a ++ b) (O ++ O')
  | [], _, _, _, h, h' => by
    cases h; exact h'
  | c :: r, b, O, O', h, h' => by
    obtain ⟨O1, O2, rfl, h1, h2⟩ := h
    exact ⟨O1, O2 ++ O', by simp, h1, Cells.app h2 h'⟩
theorem Cells.split : ∀ {a b : List Cell} {O : List Adr}, Cells K Z H (a ++ b) O → ∃ O1 O2, O = O1 ++ O2 ∧ Cells K Z H a O1 ∧ Cells K Z H b O2
  | [], _, O, h => ⟨[], O, rfl, rfl, h⟩
  | c :: r, b, O, h => by
    obtain ⟨O1, O2, rfl, h1, h2⟩ := h
    obtain ⟨P1, P2, rfl, q1, q2⟩ := Cells.split h2
    exact ⟨O1 ++ P1, P2, by simp, ⟨O1, P1, rfl, h1, q1⟩, q2⟩
theorem Cells.perm {a b : List Cell} (p : a.Perm b) : ∀ {O : List Adr}, Cells K Z H b O → ∃ O', Sub O' O ∧ Cells K Z H a O' := by
  suffices g : ∀ {O : List Adr}, Cells K Z H b O → ∃ O', O'.Perm O ∧ Cells K Z H a O' from fun {O} h => let ⟨O', q, r⟩ := g h; ⟨O', .perm q, r⟩
  induction p with
  | nil => exact fun {O} h => ⟨O, .refl O, h⟩
  | cons x _ ih =>
    intro O h
    obtain ⟨O1, O2, rfl, h1, h2⟩ := h
    obtain ⟨O', q, r⟩ := ih h2
    exact ⟨O1 ++ O', q.append_left O1, O1, O', rfl, h1, r⟩
  | swap x y l =>
    intro O h
    obtain ⟨O1, O2, rfl, h1, O3, O4, rfl, h2, h3⟩ := h
    refine ⟨O3 ++ (O1 ++ O4), ?_, O3, O1 ++ O4, rfl, h2, O1, O4, rfl, h1, h3⟩
    rw [← List.append_assoc, ← List.append_assoc]
    exact (List.perm_append_comm).append_right O4
  | trans _ _ ih1 ih2 =>
    intro O h
    obtain ⟨O1, q1, r1⟩ := ih2 h
    obtain ⟨O2, q2, r2⟩ := ih1 r1
    exact ⟨O2, q2.trans q1, r2⟩
theorem Cells.sl {a b : List Cell} (s : a.Sublist b) : ∀ {O : List Adr}, Cells K Z H b O → ∃ O', O'.Sublist O ∧ Cells K Z H a O' := by
  induction s with
  | slnil => exact fun {O} h => ⟨O, .refl O, h⟩
  | cons x _ ih =>
    intro O h
    obtain ⟨O1, O2, rfl, h1, h2⟩ := h
    obtain ⟨O', q, r⟩ := ih h2
    exact ⟨O', q.trans (List.sublist_append_right _ _), r⟩
  | cons_cons x _ ih =>
    intro O h
    obtain ⟨O1, O2, rfl, h1, h2⟩ := h
    obtain ⟨O', q, r⟩ := ih h2
    exact ⟨O1 ++ O', q.append_left O1, O1, O', rfl, h1, r⟩
theorem Cells.sub {a b : List Cell} (s : Sub a b) {O : List Adr} (h : Cells K Z H b O) : ∃ O', Sub O' O ∧ Cells K Z H a O' := by
  obtain ⟨c, p, t⟩ := s
  obtain ⟨O1, q1, r1⟩ := Cells.sl t h
  obtain ⟨O2, ⟨x, q2, q3⟩, r2⟩ := Cells.perm p r1
  exact ⟨O2, ⟨x, q2, q3.trans q1⟩, r2⟩
theorem cellRep.keep {W : Adr → Prop} (S : Stays Z H H' Z' W) : ∀ {c : Cell} {O : List Adr}, cellRep K Z H c O → (∀ p ∈ O, ¬ W p) → cellRep K Z' H' c O
  | (some d, some v), _, h, n => Rep.keep S d h n
  | (some _, none), _, h, _ => h.elim
  | (none, _), _, h, _ => h
theorem Cells.keep {W : Adr → Prop} (S : Stays Z H H' Z' W) : ∀ {l : List Cell} {O : List Adr}, Cells K Z H l O → (∀ p ∈ O, ¬ W p) → Cells K Z' H' l O
  | [], _, h, _ => h
  | c :: r, O, h, n => by
    obtain ⟨O1, O2, rfl, h1, h2⟩ := h
    exact ⟨O1, O2, rfl, cellRep.keep S h1 fun p hp => n p (by simp [hp]), Cells.keep S h2 fun p hp => n p (by simp [hp])⟩
theorem Cells.own : ∀ {l : List Cell} {O : List Adr}, Cells K Z H l O → ∀ p ∈ O, Chg H p
  | [], _, h, _, hp => by cases h; cases hp
  | (some d, some v) :: r, O, h, p, hp => by
    obtain ⟨O1, O2, rfl, h1, h2⟩ := h
    rcases List.mem_append.mp hp with e | e
    · exact Rep.own d h1 p e
    · exact Cells.own h2 p e
  | (some d, none) :: r, O, h, p, hp => by
    obtain ⟨O1, O2, rfl, h1, h2⟩ := h
    exact h1.elim
  | (none, _) :: r, O, h, p, hp => by
    obtain ⟨O1, O2, rfl, h1, h2⟩ := h
    cases h1
    exact Cells.own h2 p (by simpa using hp)
end

structure Gx where
  K : PySem.W.Frag
  H0 : Hp
  M : List Adr
  Z0 : Adr → Prop
  pins : List (Nat × V)

abbrev Ts := List (Opd × V)
def tc : Opd × V → Cell
  | (.v d, v) => (some d, some v)
  | (.sl _, v) => (none, some v)
abbrev cells (E : Env) (σ : L2.St) (ts : Ts) : List Cell := E.zip σ ++ ts.map tc

structure Cf (G : Gx) (Z : Adr → Prop) (H : Hp) (σ : L2.St) (E : Env) (ts : Ts) : Prop where
  len : E.length = σ.length
  own : ∃ O, Cells G.K Z H (cells E σ ts) O ∧ O.Nodup ∧ ∀ p ∈ O, ¬ Z p ∧ (p ∈ G.M ∨ G.H0 p = none)
  sls : ∀ i v, (Opd.sl i, v) ∈ ts → σ[i]? = some (some v)
  kp : ∀ p o, G.H0 p = some o → p ∉ G.M → H p = some o
  dom : ∀ p, Z p → ∃ o, H p = some o
  zs : ∀ p, Z p → G.Z0 p ∨ p ∈ G.M ∨ G.H0 p = none
  z0 : ∀ p, G.Z0 p → Z p
  pins : ∀ q ∈ G.pins, σ[q.1]? = some (some q.2)

section
variable {G : Gx} {Z Z' : Adr → Prop} {H H' : Hp} {σ σ' : L2.St} {E E' : Env} {ts ts' : Ts}
/-- fewer cells -/
theorem Cf.sub (c : Cf G Z H σ E ts) (hl : E'.length = σ'.length) (s : Sub (cells E' σ' ts') (cells E σ ts)) (hs : ∀ i v, (Opd.sl i, v) ∈ ts' → σ'[i]? = some (some v)) (hp : ∀ q ∈ G.pins, σ'[q.1]? = some (some q.2)) :
    Cf G Z H σ' E' ts' := by
  obtain ⟨O, h1, h2, h3⟩ := c.own
  obtain ⟨O', q, r⟩ := Cells.sub s h1
  exact ⟨hl, ⟨O', r, q.nodup h2, fun p hp => h3 p (q.mem hp)⟩, hs, c.kp, c.dom, c.zs, c.z0, hp⟩
theorem Cf.perm (c : Cf G Z H σ E ts) (p : ts'.Perm ts) : Cf G Z H σ E ts' :=
  c.sub c.len (.perm (List.Perm.append_left _ (p.map tc))) (fun i v h => c.sls i v (p.subset h)) c.pins
theorem Cf.drop (c : Cf G Z H σ E (ts' ++ ts)) : Cf G Z H σ E ts :=
  c.sub c.len (.sl (by
    unfold cells
    rw [List.map_append]
    exact (List.Sublist.refl _).append (List.sublist_append_right _ _))) (fun i v h => c.sls i v (List.mem_append_right _ h)) c.pins
theorem Cf.tail {t : Opd × V} (c : Cf G Z H σ E (t :: ts)) : Cf G Z H σ E ts := Cf.drop (ts' := [t]) c
/-- new objects: those that stood stand as they were -/
theorem Cf.more (c : Cf G Z H σ E ts) (he : Same H H') {d : D} {v : V} {O : List Adr} (hr : Rep G.K Z H' d v O) (hf : ∀ p ∈ O, H p = none) (hn : O.Nodup) : Cf G Z H' σ E ((.v d, v) :: ts) := by
  obtain ⟨P, h1, h2, h3⟩ := c.own
  have S : Stays Z H H' Z (fun _ => False) := Stays.ext (fun _ z => z) he
  have hP : ∀ p ∈ P, ∃ o, H p = some o := fun p hp => by
    rcases Cells.own h1 p hp with ⟨_, e⟩ | ⟨_, e⟩ <;> exact ⟨_, e⟩
  have fr : ∀ p, H p = none → G.H0 p = none ∨ p ∈ G.M := fun p e => by
    by_cases hM : p ∈ G.M
    · exact .inr hM
    · cases q : G.H0 p with
      | none => exact .inl rfl
      | some o => rw [c.kp p o q hM] at e; cases e
  have hc : Cells G.K Z H' ((some d, some v) :: cells E σ ts) (O ++ P) := ⟨O, P, rfl, hr, Cells.keep S h1 fun _ _ w => w⟩
  obtain ⟨O', q, r⟩ := Cells.sub (a := cells E σ ((.v d, v) :: ts)) (.perm (List.perm_middle)) hc
  refine ⟨c.len, ⟨O', r, q.nodup ?_, fun p hp => ?_⟩, fun i w h => ?_, fun p o e hM => he _ _ (c.kp p o e hM), fun p z => let ⟨o, e⟩ := c.dom p z; ⟨o, he _ _ e⟩, c.zs, c.z0, c.pins⟩
  · refine List.nodup_append.mpr ⟨hn, h2, fun a ha b hb e => ?_⟩
    subst e
    obtain ⟨o, e⟩ := hP a hb
    rw [hf a ha] at e; cases e
  · rcases List.mem_append.mp (q.mem hp) with h | h
    · refine ⟨fun z => ?_, (fr p (hf p h)).symm⟩
      obtain ⟨o, e⟩ := c.dom p z
      rw [hf p h] at e; cases e
    · exact h3 p h
  · rcases List.mem_cons.mp h with e | e
    · cases e
    · exact c.sls i w e
/-! ### freezing -/
theorem get_some {i : Nat} {d : D} (h : get E i = some d) : E[i]? = some (some d) := by
  unfold get at h
  cases e : E[i]? with
  | none => rw [e] at h; cases h
  | some o =>
    rw [e] at h
    have h' : o = some d := h
    rw [h']
theorem get_of {i : Nat} {d : D} (h : E[i]? = some (some d)) : get E i = some d := by unfold get; rw [h]; rfl
theorem zip_at : ∀ {E : Env} {σ : L2.St} {i : Nat} {a : Option D} {b : Option V}, E[i]? = some a → σ[i]? = some b → (E.zip σ)[i]? = some (a, b)
  | [], _, _, _, _, h, _ => by simp at h
  | _ :: _, [], _, _, _, _, h => by simp at h
  | x :: E, y :: σ, 0, a, b, h, h' => by simp at h h' ⊢; exact ⟨h, h'⟩
  | x :: E, y :: σ, i + 1, a, b, h, h' => by simpa using zip_at (i := i) (by simpa using h) (by simpa using h')
theorem zip_set : ∀ {E : Env} {σ : L2.St} {i : Nat} {a : Option D} {b : Option V}, (E.set i a).zip (σ.set i b) = (E.zip σ).set i (a, b)
  | [], _, _, _, _ => by simp
  | _ :: _, [], _, _, _ => by simp
  | x :: E, y :: σ, 0, a, b => by simp
  | x :: E, y :: σ, i + 1, a, b => by simp [zip_set (E := E) (σ := σ) (i := i)]
/-- one cell in hand: its part of what is owned, and the others', with any other put there -/
theorem Cells.at {K : PySem.W.Frag} {Z : Adr → Prop} {H : Hp} : ∀ {l : List Cell} {i : Nat} {c : Cell} {O : List Adr}, Cells K Z H l O → l[i]? = some c → ∃ O1 O2 O3, O = O1 ++ (O2 ++ O3) ∧ cellRep K Z H c O2 ∧
    ∀ {Z' : Adr → Prop} {H' : Hp} {W : Adr → Prop} {c' : Cell} {P : List Adr}, Stays Z H H' Z' W → (∀ p ∈ O1 ++ O3, ¬ W p) → cellRep K Z' H' c' P → Cells K Z' H' (l.set i c') (O1 ++ (P ++ O3))
  | [], _, _, _, _, e => by simp at e
  | c :: r, 0, c', O, h, e => by
    obtain ⟨O1, O2, rfl, h1, h2⟩ := h
    simp at e; subst e
    refine ⟨[], O1, O2, rfl, h1, fun {Z' H' W c' P} S n hc => ?_⟩
    exact ⟨P, O2, rfl, hc, Cells.keep S h2 fun p hp => n p (by simpa using hp)⟩
  | c :: r, i + 1, c', O, h, e => by
    obtain ⟨O1, O2, rfl, h1, h2⟩ := h
    obtain ⟨P1, P2, P3, rfl, h3, h4⟩ := Cells.at (i := i) h2 (by simpa using e)
    refine ⟨O1 ++ P1, P2, P3, by simp, h3, fun {Z' H' W c' P} S n hc => ?_⟩
    refine ⟨O1, P1 ++ (P ++ P3), by simp, cellRep.keep S h1 fun p hp => n p (by simp [hp]), h4 S (fun p hp => n p ?_) hc⟩
    rcases List.mem_append.mp hp with q | q <;> simp [q]

theorem fz_get (E : Env) (i : Nat) : (get E i).map fz = ((E[i]?).bind id).map fz := rfl
/-- one operand is frozen -/
theorem Cf.frz1 {o : Opd} {v : V} {d : D} (c : Cf G Z H σ E ((o, v) :: ts)) (h : fetch1 E o = some d) :
    ∃ Z', (∀ p, Z p → Z' p) ∧ Rep G.K Z' H d v [] ∧ (∀ p, Z' p → ∃ o, H p = some o) ∧ Cf G Z' H σ (frz1 E o) ts := by
  obtain ⟨O, h1, h2, h3⟩ := c.own
  cases o with
  | v d0 =>
    have e : fz d0 = d := Option.some.inj h
    subst e
    obtain ⟨O', q, O1, O2, rfl, r1, r2⟩ := Cells.sub (a := (some d0, some v) :: cells E σ ts) (.perm (List.perm_middle.symm)) h1
    have nd := q.nodup h2
    have hd : ∀ p, Z p ∨ p ∈ O1 → ∃ o, H p = some o := fun p hp => by
      rcases hp with hp | hp
      · exact c.dom p hp
      · rcases Rep.own d0 r1 p hp with ⟨_, e⟩ | ⟨_, e⟩ <;> exact ⟨_, e⟩
    have S : Stays Z H H (fun p => Z p ∨ p ∈ O1) (fun _ => False) := Stays.ext (fun _ z => .inl z) (Same.refl H)
    refine ⟨fun p => Z p ∨ p ∈ O1, fun _ => .inl, Rep.frz d0 r1 (fun _ => .inl) (fun _ => .inr), hd, ?_⟩
    refine ⟨c.len, ⟨O2, Cells.keep S r2 fun _ _ w => w, (List.nodup_append.mp nd).2.1, fun p hp => ⟨fun z => ?_, (h3 p (q.mem (List.mem_append_right _ hp))).2⟩⟩, fun i w hw => c.sls i w (List.mem_cons_of_mem _ hw), c.kp, hd, fun p hp => ?_, fun p z => .inl (c.z0 p z), c.pins⟩
    · rcases z with z | z
      · exact (h3 p (q.mem (List.mem_append_right _ hp))).1 z
      · exact (List.nodup_append.mp nd).2.2 p z p hp rfl
    · rcases hp with hp | hp
      · exact c.zs p hp
      · exact .inr (h3 p (q.mem (List.mem_append_left _ hp))).2
  | sl i =>
    have c' := c.tail
    obtain ⟨P, p1, p2, p3⟩ := c'.own
    have hσ := c.sls i v (by simp)
    cases eg : get E i with
    | none => rw [fetch1, eg] at h; cases h
    | some d0 =>
      have e : fz d0 = d := by rw [fetch1, eg] at h; exact Option.some.inj h
      subst e
      have hE := get_some eg
      have hz : (cells E σ ts)[i]? = some (some d0, some v) := by
        have hz := zip_at hE hσ
        rw [List.getElem?_append_left (by exact (List.getElem?_eq_some_iff.mp hz).1)]
        exact hz
      obtain ⟨O1, O2, O3, rfl, r1, r2⟩ := Cells.at p1 hz
      have hd : ∀ p, Z p ∨ p ∈ O2 → ∃ o, H p = some o := fun p hp => by
        rcases hp with hp | hp
        · exact c.dom p hp
        · rcases Rep.own d0 r1 p hp with ⟨_, e⟩ | ⟨_, e⟩ <;> exact ⟨_, e⟩
      have S : Stays Z H H (fun p => Z p ∨ p ∈ O2) (fun _ => False) := Stays.ext (fun _ z => .inl z) (Same.refl H)
      have rf : Rep G.K (fun p => Z p ∨ p ∈ O2) H (fz d0) v [] := Rep.frz d0 r1 (fun _ => .inl) (fun _ => .inr)
      have n2 := List.nodup_append.mp p2
      have n3 := List.nodup_append.mp n2.2.1
      refine ⟨fun p => Z p ∨ p ∈ O2, fun _ => .inl, rf, hd, ?_⟩
      refine ⟨by simpa [Fr.frz1] using c.len, ⟨O1 ++ ([] ++ O3), ?_, ?_, fun p hp => ⟨fun z => ?_, (p3 p ?_).2⟩⟩, c'.sls, c.kp, hd, fun p hp => ?_, fun p z => .inl (c.z0 p z), c.pins⟩
      · have e : cells (Fr.frz1 E (.sl i)) σ ts = (cells E σ ts).set i (some (fz d0), some v) := by
          unfold cells Fr.frz1
          have e2 : σ.set i (some v) = σ := by
            apply List.ext_getElem?
            intro j
            by_cases hj : i = j
            · subst hj
              rw [List.getElem?_set_self (List.getElem?_eq_some_iff.mp hσ).1, hσ]
            · rw [List.getElem?_set_ne hj]
          rw [List.set_append_left _ _ (by exact (List.getElem?_eq_some_iff.mp (zip_at hE hσ)).1), ← zip_set, e2]
          simp only [eg, Option.map_some]
        rw [e]
        exact r2 S (fun _ _ w => w) rf
      · simp only [List.nil_append]
        refine List.nodup_append.mpr ⟨n2.1, n3.2.1, fun a ha b hb => n2.2.2 a ha b (List.mem_append_right _ hb)⟩
      · have hp' : p ∈ O1 ++ (O2 ++ O3) := by
          simp only [List.nil_append] at hp
          rcases List.mem_append.mp hp with q | q <;> simp [q]
        rcases z with z | z
        · exact (p3 p hp').1 z
        · simp only [List.nil_append] at hp
          rcases List.mem_append.mp hp with q | q
          · exact n2.2.2 p q p (List.mem_append_left _ z) rfl
          · exact n3.2.2 p z p q rfl
      · simp only [List.nil_append] at hp
        rcases List.mem_append.mp hp with q | q <;> simp [q]
      · rcases hp with hp | hp
        · exact c.zs p hp
        · exact .inr (p3 p (by simp [hp])).2
theorem fetch1_frz {o o' : Opd} : fetch1 (Fr.frz1 E o) o' = fetch1 E o' := by
  cases o with
  | v d => rfl
  | sl i =>
    cases o' with
    | v d => rfl
    | sl j =>
      simp only [fetch1, Fr.frz1]
      by_cases e : i = j
      · subst e
        by_cases hi : i < E.length
        · cases q : get E i with
          | none => simp [get, List.getElem?_set_self hi]
          | some d => simp [get, List.getElem?_set_self hi, fz_fz]
        · have : E[i]? = none := by simpa using hi
          simp [get, this, List.getElem?_set, hi]
      · simp only [get, List.getElem?_set_ne e]
theorem fetch_frz {o : Opd} : ∀ {os : List Opd}, fetch (Fr.frz1 E o) os = fetch E os
  | [] => rfl
  | o' :: r => by simp only [fetch, fetch1_frz, fetch_frz]
/-- all of them -/
theorem Cf.frzs : ∀ {os : List Opd} {vs : List V} {E : Env} {Z : Adr → Prop} {ds : List D}, os.length = vs.length → Cf G Z H σ E (os.zip vs ++ ts) → fetch E os = some ds →
    ∃ Z', (∀ p, Z p → Z' p) ∧ RepL G.K Z' H ds vs [] ∧ (∀ p, Z' p → ∃ o, H p = some o) ∧ Cf G Z' H σ (frzs E os) ts
  | [], [], E, Z, ds, _, c, h => by
    have e : ds = [] := (Option.some.inj h).symm
    subst e
    exact ⟨Z, fun _ z => z, ⟨rfl, rfl⟩, c.dom, c⟩
  | [], _ :: _, _, _, _, hl, _, _ => by simp at hl
  | _ :: _, [], _, _, _, hl, _, _ => by simp at hl
  | o :: os, v :: vs, E, Z, ds, hl, c, h => by
    simp only [fetch] at h
    cases e1 : fetch1 E o with
    | none => rw [e1] at h; cases h
    | some d =>
      rw [e1] at h
      cases e2 : fetch E os with
      | none => rw [e2] at h; cases h
      | some r =>
        rw [e2] at h
        have e : d :: r = ds := Option.some.inj h
        subst e
        obtain ⟨Z1, z1, r1, d1, c1⟩ := Cf.frz1 (ts := os.zip vs ++ ts) c e1
        obtain ⟨Z2, z2, r2, d2, c2⟩ := Cf.frzs (by simpa using hl) c1 (by rw [fetch_frz]; exact e2)
        exact ⟨Z2, fun p z => z2 p (z1 p z), ⟨v, vs, [], [], rfl, rfl, r1.ext z2 (Same.refl H), r2⟩, d2, c2⟩
/-- a frozen value more in hand -/
theorem Cf.hold {d : D} {v : V} (c : Cf G Z H σ E ts) (r : Rep G.K Z H d v []) : Cf G Z H σ E ((.v d, v) :: ts) := Cf.more c (Same.refl H) r (by simp) List.nodup_nil
theorem Cf.take {o : Opd} {v : V} {d : D} (c : Cf G Z H σ E ((o, v) :: ts)) (h : Fr.take E o = some (d, E')) :
    ∃ Z', (∀ p, Z p → Z' p) ∧ Cf G Z' H σ E' ((.v d, v) :: ts) := by
  cases o with
  | v d0 =>
    have e : (d0, E) = (d, E') := Option.some.inj h
    cases e
    exact ⟨Z, fun _ z => z, c⟩
  | sl i =>
    cases eg : get E i with
    | none => rw [Fr.take, eg] at h; cases h
    | some d0 =>
      rw [Fr.take, eg] at h
      have e : (fz d0, E.set i (some (fz d0))) = (d, E') := Option.some.inj h
      cases e
      obtain ⟨Z', z, r, dm, c'⟩ := Cf.frz1 (d := fz d0) c (by rw [fetch1, eg]; rfl)
      have e2 : Fr.frz1 E (.sl i) = E.set i (some (fz d0)) := by rw [Fr.frz1, eg]; rfl
      rw [e2] at c'
      exact ⟨Z', z, c'.hold r⟩
end
end Fr
end
section
set_option linter.all false
set_option autoImplicit true
set_option maxRecDepth 100000
/-! The operators and the built-in calls on data. -/
namespace Fr
open PySem L2 PyProof.Rows
/-- what an operation on frozen data asks: its value on the data; all that stood stands, the result is new or old -/
def rd (f : List D → Option D) (K : PySem.W.Frag) : List V → Hp → VK → Prop := fun vs H Q => ∃ Z ds r, RepL K Z H ds vs [] ∧ (∀ p, Z p → ∃ o, H p = some o) ∧ f ds = some r ∧
  ∀ v H' O, Same H H' → Rep K Z H' r v O → (∀ p ∈ O, H p = none) → O.Nodup → Q v H'
def rd2 (f : D → D → Option D) (K : PySem.W.Frag) : R2 := fun x y H Q => ∃ Z a b r, Rep K Z H a x [] ∧ Rep K Z H b y [] ∧ (∀ p, Z p → ∃ o, H p = some o) ∧ f a b = some r ∧
  ∀ v H' O, Same H H' → Rep K Z H' r v O → (∀ p ∈ O, H p = none) → O.Nodup → Q v H'
def rd1 (f : D → Option D) (K : PySem.W.Frag) : V → Hp → VK → Prop := fun x H Q => ∃ Z a r, Rep K Z H a x [] ∧ (∀ p, Z p → ∃ o, H p = some o) ∧ f a = some r ∧
  ∀ v H' O, Same H H' → Rep K Z H' r v O → (∀ p ∈ O, H p = none) → O.Nodup → Q v H'
theorem appl_ok {G : Gx} {Z : Adr → Prop} {H : Hp} {σ : L2.St} {E E' : Env} {ts : Ts} {os : List Opd} {vs : List V} {f : List D → Option D} {o : Opd} {Q : VK} (hl : os.length = vs.length) (c : Cf G Z H σ E (os.zip vs ++ ts)) (h : appl f os E = some (o, E'))
    (hq : ∀ Z' H' v, Cf G Z' H' σ E' ((o, v) :: ts) → Q v H') : rd f G.K vs H Q := by
  unfold appl at h
  cases e1 : fetch E os with
  | none => rw [e1] at h; cases h
  | some ds =>
    rw [e1] at h
    cases e2 : f ds with
    | none => simp [e2] at h
    | some r =>
      simp only [e2, Option.bind_some, Option.map_some, Option.some.injEq, Prod.mk.injEq] at h
      obtain ⟨rfl, rfl⟩ := h
      obtain ⟨Z1, z1, r1, d1, c1⟩ := Cf.frzs hl c e1
      refine ⟨Z1, ds, r, r1, d1, e2, fun v H' O he hr hf hn => ?_⟩
      by_cases hnf : nof r = true
      · rw [if_pos hnf] at hq
        exact hq Z H' v (Cf.more c.drop he (Rep.unz r hr hnf) hf hn)
      · rw [if_neg hnf] at hq
        exact hq Z1 H' v (Cf.more c1 he hr hf hn)
theorem rd2_of {f : D → D → Option D} {K : PySem.W.Frag} {x y : V} {H : Hp} {Q : VK} (h : rd (ap2 f) K [x, y] H Q) : rd2 f K x y H Q := by
  obtain ⟨Z, ds, r, hr, hz, hf, hq⟩ := h
  match ds, hr with
  | [], hr => exact absurd hr.1 (by simp)
  | [_], hr =>
    obtain ⟨v, ws, O1, O2, e, _, _, h2⟩ := hr
    rw [h2.1] at e; cases e
  | [a, b], hr =>
    obtain ⟨v, ws, O1, O2, e, eO, h1, v2, ws2, O3, O4, e2, eO2, h3, h4⟩ := hr
    rw [e2, h4.1] at e; cases e
    have : O1 = [] ∧ O2 = [] := by simpa using eO.symm
    obtain ⟨rfl, rfl⟩ := this
    have : O3 = [] ∧ O4 = [] := by simpa using eO2.symm
    obtain ⟨rfl, rfl⟩ := this
    exact ⟨Z, a, b, r, h1, h3, hz, hf, hq⟩
  | _ :: _ :: _ :: _, hr =>
    obtain ⟨v, ws, O1, O2, e, _, _, v2, ws2, O3, O4, e2, _, _, v3, ws3, O5, O6, e3, _⟩ := hr
    rw [e2, e3] at e; cases e
theorem rd1_of {f : D → Option D} {K : PySem.W.Frag} {x : V} {H : Hp} {Q : VK} (h : rd (ap1 f) K [x] H Q) : rd1 f K x H Q := by
  obtain ⟨Z, ds, r, hr, hz, hf, hq⟩ := h
  match ds, hr with
  | [], hr => exact absurd hr.1 (by simp)
  | [a], hr =>
    obtain ⟨v, ws, O1, O2, e, eO, h1, h2⟩ := hr
    rw [h2.1] at e; cases e
    have : O1 = [] ∧ O2 = [] := by simpa using eO.symm
    obtain ⟨rfl, rfl⟩ := this
    exact ⟨Z, a, r, h1, hz, hf, hq⟩
  | _ :: _ :: _, hr =>
    obtain ⟨v, ws, O1, O2, e, _, _, v2, ws2, O3, O4, e2, _⟩ := hr
    rw [e2] at e; cases e
/-! ### data as the library reads it -/
section
variable {K : PySem.W.Frag} {Z : Adr → Prop} {H : Hp}
mutual
theorem Rep.dp : ∀ (d : D) {v : V} {O : List Adr}, Rep K Z H d v O → plain d = true → Dp K H v (py d)
  | .non, _, _, h, _ => by rw [h.1]; exact .non
  | .bl b, _, _, h, _ => by rw [h.1]; exact .bl b
  | .int i, _, _, h, _ => by rw [h.1]; exact .int i
  | .str x, _, _, h, _ => by rw [h.1]; exact .str x
  | .tup ds, v, O, h, n => by
    obtain ⟨p, vs, rfl, ht, hl⟩ := h
    exact .tup ht (RepL.dp ds hl n)
  | .lst true ds, v, O, h, n => by
    obtain ⟨p, vs, O', rfl, hp, rfl, hl⟩ := h
    exact .lst (.of hp) (RepL.dp ds hl n)
  | .lst false ds, v, O, h, n => by
    obtain ⟨p, vs, rfl, hp, hz, rfl, hl⟩ := h
    exact .lst (.inl hp) (RepL.dp ds hl n)
  | .dic _ _ _, _, _, _, n => by simp [plain] at n
theorem RepL.dp : ∀ (ds : List D) {vs : List V} {O : List Adr}, RepL K Z H ds vs O → plains ds = true → DpAll K H vs (pys ds)
  | [], _, _, h, _ => by rw [h.1]; exact .nil
  | d :: r, vs, O, h, n => by
    obtain ⟨v, ws, O1, O2, rfl, rfl, h1, h2⟩ := h
    simp only [plains, Bool.and_eq_true] at n
    exact .cons (Rep.dp d h1 n.1) (RepL.dp r h2 n.2)
end
end
section
variable {X : Cx} {pins : List (Addr × Obj)} {σ : L2.St} {H : Hp} {s : Shared} {Z : Adr → Prop}
theorem kv_keys : ∀ {ks : List Key} {vs : List V} {zs : List (Key × Value)}, ks.length = vs.length → KV (ks.zip vs) zs → zs.map (·.1) = ks ∧ Vals vs (zs.map (·.2))
  | [], [], _, _, .nil => ⟨rfl, .nil⟩
  | [], _ :: _, _, e, _ => by simp at e
  | _ :: _, [], _, e, _ => by simp at e
  | k :: ks, v :: vs, z :: zs, e, h => by
    cases h with
    | cons r t =>
      obtain ⟨h1, h2⟩ := kv_keys (by simpa using e) t
      exact ⟨by simp [h1, ← r.1], .cons r.2 h2⟩
theorem pairs_reads {P : Program} {w : World} {h : Heap} : ∀ {es : List DictEntry} {zs : List (Key × Value)}, PySem.Pairs (mixKind P w) es zs → ReadsAll h (es.map (·.key)) (zs.map fun z => kd z.1) [] ∧ es.map (·.val) = zs.map (·.2)
  | _, _, .nil => ⟨.nil, rfl⟩
  | _, _, .cons (e := e) (kv := kv) k v r => by
    obtain ⟨h1, h2⟩ := pairs_reads (h := h) r
    refine ⟨?_, by simp [h2, v]⟩
    rcases keyIs_shape (k := kv.1) (v := e.key) k with ⟨i, t, e1, e2⟩ | ⟨x, t, e1, e2⟩
    · simp only [List.map_cons, e1, e2]
      exact .cons (as := []) (.int i t) h1
    · simp only [List.map_cons, e1, e2]
      exact .cons (as := []) (.str x t) h1
theorem pyk_keys : ∀ {ks : List Key} {ds : List D}, ks.length = ds.length → (pyk ks ds).map (·.1) = ks.map kd ∧ (pyk ks ds).map (·.2) = pys ds
  | [], [], _ => ⟨rfl, rfl⟩
  | [], _ :: _, e => by simp at e
  | _ :: _, [], e => by simp at e
  | k :: ks, d :: ds, e => by
    obtain ⟨h1, h2⟩ := pyk_keys (ks := ks) (ds := ds) (by simpa using e)
    exact ⟨by simp [pyk, h1], by simp [pyk, pys, h2]⟩
theorem dic_reads (I : Inv X pins σ H s) {p : Adr} {ks : List Key} {vs : List V} (h : Rd H p (.dK (ks.zip vs))) (hl : ks.length = vs.length) {ds : List PyData} (rest : ∀ us, Vals vs us → ∃ as, ReadsAll s.heap us ds as) {kvs : List (PyData × PyData)} (hk : kvs.map (·.1) = ks.map kd) (hd : kvs.map (·.2) = ds) :
    ∃ us as, Vals vs us ∧ ReadsAll s.heap us ds as ∧ p ≠ sysModules ∧ ∀ bs, ReadsAll s.heap us ds bs → Reads s.heap (.ref p) (.dict kvs) (p :: [] ++ bs) := by
  obtain ⟨_, hs, zs, rz, o, es, ep, ho, hc, hdat, _, hp, _⟩ := h.ok I.hok
  obtain ⟨e1, rv⟩ := kv_keys hl rz
  obtain ⟨k1, k2⟩ := pairs_reads (h := s.heap) hp
  obtain ⟨as, ha⟩ := rest _ rv
  refine ⟨_, as, rv, ha, fun e => by rw [e] at hs; exact absurd hs (by decide), fun bs hb => ?_⟩
  refine Reads.dict ho hc.1 hdat ?_ ?_
  · rw [hk, ← e1, List.map_map]
    exact k1
  · rw [hd, k2]
    exact hb
mutual
theorem Rep.reads (hs0 : ∃ o, X.base.get? sysModules = some o) (I : Inv X pins σ H s) : ∀ (d : D) {v : V} {O : List Adr} {u : Value}, Rep X.K Z H d v O → RelV v u → ∃ as, Reads s.heap u (py d) as ∧ sysModules ∉ as
  | .non, v, O, u, h, r => by rw [h.1] at r; cases r; exact ⟨_, .none, by simp⟩
  | .bl b, v, O, u, h, r => by rw [h.1] at r; cases r; exact ⟨_, .bool b, by simp⟩
  | .int i, v, O, u, h, r => by rw [h.1] at r; obtain ⟨t, rfl⟩ := r; exact ⟨_, .int i t, by simp⟩
  | .str x, v, O, u, h, r => by rw [h.1] at r; obtain ⟨t, rfl⟩ := r; exact ⟨_, .str x t, by simp⟩
  | .tup ds, v, O, u, h, r => by
    obtain ⟨p, vs, rfl, ht, hl⟩ := h
    cases r
    obtain ⟨its, rv, ⟨o, ho, hc, n, hd⟩, _⟩ := I.tuple ht
    obtain ⟨as, hr, hn⟩ := RepL.reads hs0 I ds hl rv
    exact ⟨_, .tuple ho hc hd hr, hn⟩
  | .lst true ds, v, O, u, h, r => by
    obtain ⟨p, vs, O', rfl, hp, rfl, hl⟩ := h
    cases r
    obtain ⟨its, rv, ⟨o, n, ho, hc, _, hd⟩, _⟩ := I.list (SqL.of hp)
    obtain ⟨as, hr, hn⟩ := RepL.reads hs0 I ds hl rv
    refine ⟨_, .list ho hc hd hr, ?_⟩
    simp only [List.mem_cons, List.mem_append, List.not_mem_nil, or_false, not_or]
    refine ⟨fun z => ?_, hn⟩
    obtain ⟨o, e⟩ := hs0
    have := (I.env0.bs _ _ e).2
    rw [z, hp] at this; cases this
  | .lst false ds, v, O, u, h, r => by
    obtain ⟨p, vs, rfl, hp, hz, rfl, hl⟩ := h
    cases r
    obtain ⟨its, rv, ⟨o, n, ho, hc, _, hd⟩, _⟩ := I.list (.inl hp)
    obtain ⟨as, hr, hn⟩ := RepL.reads hs0 I ds hl rv
    refine ⟨_, .list ho hc hd hr, ?_⟩
    simp only [List.mem_cons, List.mem_append, List.not_mem_nil, or_false, not_or]
    refine ⟨fun z => ?_, hn⟩
    obtain ⟨o, e⟩ := hs0
    have := (I.env0.bs _ _ e).2
    rw [z] at this
    rcases hp with hp | ⟨_, hp⟩ <;> (rw [this] at hp; cases hp)
  | .dic true ks ds, v, O, u, h, r => by
    obtain ⟨p, vs, O', rfl, hp, hl0, rfl, hl⟩ := h
    cases r
    have e1 : ks.length = ds.length := by rw [hl0, RepL.len hl]
    obtain ⟨k1, k2⟩ := pyk_keys e1
    obtain ⟨us, as, rv, _, hns, hb⟩ := dic_reads I (.inl hp) hl0 (fun us rv => let ⟨as, q, _⟩ := RepL.reads hs0 I ds hl rv; ⟨as, q⟩) k1 k2
    obtain ⟨bs, hr, hn⟩ := RepL.reads hs0 I ds hl rv
    exact ⟨_, hb bs hr, by simp only [List.cons_append, List.nil_append, List.mem_cons, not_or]; exact ⟨fun z => hns z.symm, hn⟩⟩
  | .dic false ks ds, v, O, u, h, r => by
    obtain ⟨p, vs, rfl, hp, hl0, hz, rfl, hl⟩ := h
    cases r
    have e1 : ks.length = ds.length := by rw [hl0, RepL.len hl]
    obtain ⟨k1, k2⟩ := pyk_keys e1
    obtain ⟨us, as, rv, _, hns, hb⟩ := dic_reads I hp hl0 (fun us rv => let ⟨as, q, _⟩ := RepL.reads hs0 I ds hl rv; ⟨as, q⟩) k1 k2
    obtain ⟨bs, hr, hn⟩ := RepL.reads hs0 I ds hl rv
    exact ⟨_, hb bs hr, by simp only [List.cons_append, List.nil_append, List.mem_cons, not_or]; exact ⟨fun z => hns z.symm, hn⟩⟩
theorem RepL.reads (hs0 : ∃ o, X.base.get? sysModules = some o) (I : Inv X pins σ H s) : ∀ (ds : List D) {vs : List V} {O : List Adr} {us : List Value}, RepL X.K Z H ds vs O → Vals vs us → ∃ as, ReadsAll s.heap us (pys ds) as ∧ sysModules ∉ as
  | [], vs, O, us, h, r => by rw [h.1] at r; cases r; exact ⟨_, .nil, by simp⟩
  | d :: ds, vs, O, us, h, r => by
    obtain ⟨v, ws, O1, O2, rfl, rfl, h1, h2⟩ := h
    cases r with
    | cons r1 r2 =>
      obtain ⟨as, q1, n1⟩ := Rep.reads hs0 I d h1 r1
      obtain ⟨bs, q2, n2⟩ := RepL.reads hs0 I ds h2 r2
      exact ⟨_, .cons q1 q2, by
        simp only [List.mem_append, not_or]
        exact ⟨n1, n2⟩⟩
end
/-- repr of data: its text -/
theorem repr_data {v : Value} {d : PyData} {as : List Adr} {A : Around} {prog : Program} {w : World} {E : Value → Shared → Prop} {s : Shared} {Q : Value → Shared → Prop} (r : Reads s.heap v d as) (hs : d.showable = true) (hsm : d.hasDict = true → sysModules ∉ as) (hg : A.guards = some []) (hu : A.units + (d.depth + 1) < cLine)
    (hQ : ∀ h' u tk, (∀ b o, s.heap.get? b = some o → h'.get? b = some o) → Q (.str d.shown u) { s with heap := h', toks := tk }) (hsz : d.shown.length ≤ sizeLine) : wpAny (model prog w) A (call (.builtin "repr") [v]) Q E s := by
  cases r with
  | none => exact PySem.P.repr_of_none (hQ _ _ _ fun _ _ e => e)
  | bool b => exact PySem.P.repr_of_bool (hQ _ _ _ fun _ _ e => e)
  | int i t => exact PySem.P.repr_of_int (by simpa [PyData.showable] using hs) (hQ _ _ _ fun _ _ e => e)
  | str x t => exact PySem.P.repr_of_str (hQ _ _ _ fun _ _ e => e) hsz
  | list a b c e => exact repr_of_reads' (.list a b c e) hs hsm hg hu (fun _ _ e => e) hQ hsz
  | tuple a b c e => exact repr_of_reads' (.tuple a b c e) hs hsm hg hu (fun _ _ e => e) hQ hsz
  | dict a b c e f => exact repr_of_reads' (.dict a b c e f) hs hsm hg hu (fun _ _ e => e) hQ hsz
theorem rd_b {f : Blt} {K : PySem.W.Frag} {vs : List V} {Q : VK} (h : rd (fb f) K vs H Q) : (∃ x, vs = [x] ∧ rd1 (b1 f) K x H Q) ∨ ∃ x y, vs = [x, y] ∧ rd2 (b2 f) K x y H Q := by
  obtain ⟨Z, ds, r, hr, hz, hf, hq⟩ := h
  cases ds with
  | nil => exact absurd hf (fun e => nomatch e)
  | cons a ds =>
    cases ds with
    | nil =>
      obtain ⟨v, ws, O1, O2, e, eO, h1, h2⟩ := id hr
      have e' : vs = [v] := by rw [e, h2.1]
      rw [e'] at hr
      exact .inl ⟨v, e', rd1_of (f := b1 f) ⟨Z, [a], r, hr, hz, hf, hq⟩⟩
    | cons b ds =>
      cases ds with
      | nil =>
        obtain ⟨v, ws, O1, O2, e, eO, h1, v2, ws2, O3, O4, e2, _, _, h4⟩ := id hr
        have e' : vs = [v, v2] := by rw [e, e2, h4.1]
        rw [e'] at hr
        exact .inr ⟨v, v2, e', rd2_of (f := b2 f) ⟨Z, [a, b], r, hr, hz, hf, hq⟩⟩
      | cons c ds => exact absurd hf (fun e => nomatch e)
theorem cr_repr (hs0 : ∃ o, X.base.get? sysModules = some o) (hg : X.A.guards = some []) (hu : X.A.units + 64 < cLine) : CallR X (.builtin "repr") (rd (fb .repr) X.K) := by
  intro pins s σ H xs us Q I r h
  rcases rd_b h with ⟨x, rfl, h'⟩ | ⟨x, y, rfl, Z, a, b, r, _, _, _, hf, _⟩
  · obtain ⟨Z, a, r', hr, hz, hf, hq⟩ := h'
    obtain ⟨u, rfl, rx⟩ := vals1 r
    simp only [b1, when'] at hf
    split at hf
    · rename_i hc
      have e := Option.some.inj hf
      subst e
      simp only [Bool.and_eq_true, decide_eq_true_eq, Bool.or_eq_true, Bool.not_eq_true'] at hc
      obtain ⟨⟨c1, c2⟩, c3⟩ := hc
      obtain ⟨as, ra, hn⟩ := Rep.reads hs0 I a hr rx
      refine repr_data ra c1 (fun e => hn) hg (by omega) (fun h' u tk hk => ?_) c2
      · exact ⟨.str _, H, I.kept (t' := tk) hk, ⟨_, rfl⟩, hq _ H [] (Same.refl H) ⟨rfl, rfl⟩ (by simp) List.nodup_nil⟩
    · cases hf
  · simp [b2] at hf
end
end Fr
end
section
set_option linter.all false
set_option autoImplicit true
set_option maxRecDepth 100000
/-! The operators on data, one by one. -/
namespace Fr
open PySem L2 PyProof.Rows
theorem same_upd {H : Hp} {p : Adr} {o : HO} (h : H p = none) : Same H (upd H p o) := fun b x e => by
  rw [upd_ne (ne_of_none e h)]; exact e
section
variable {X : Cx} {K : PySem.W.Frag} {Z : Adr → Prop} {H : Hp} {Q : VK}
/-- the end: an atom -/
theorem done0 {d : D} {v : V} (hq : ∀ v H' O, Same H H' → Rep K Z H' d v O → (∀ p ∈ O, H p = none) → O.Nodup → Q v H') (h : Rep K Z H d v []) : Q v H := hq v H [] (Same.refl H) h (by simp) List.nodup_nil
/-- the end: a new tuple of frozen items -/
theorem doneT {ds : List D} {vs : List V} {p : Adr} (hq : ∀ v H' O, Same H H' → Rep K Z H' (.tup ds) v O → (∀ p ∈ O, H p = none) → O.Nodup → Q v H') (h : RepL K Z H ds vs []) (hp : H p = none) : Q (.ref p) (upd H p (.tup vs)) :=
  hq _ _ [] (same_upd hp) ⟨p, vs, rfl, .of upd_same, h.ext (fun _ z => z) (same_upd hp)⟩ (by simp) List.nodup_nil
/-- the end: a new list of frozen items -/
theorem doneL {ds : List D} {vs : List V} {p : Adr} (hq : ∀ v H' O, Same H H' → Rep K Z H' (.lst true ds) v O → (∀ p ∈ O, H p = none) → O.Nodup → Q v H') (h : RepL K Z H ds vs []) (hp : H p = none) : Q (.ref p) (upd H p (.lst vs)) :=
  hq _ _ [p] (same_upd hp) ⟨p, vs, [], rfl, upd_same, rfl, h.ext (fun _ z => z) (same_upd hp)⟩ (by simpa using hp) (by simp)
theorem rep_tup {ds : List D} {v : V} {O : List Adr} (h : Rep K Z H (.tup ds) v O) : ∃ p vs, v = .ref p ∧ SqT K H p vs ∧ RepL K Z H ds vs O := h
/-- a frozen list -/
theorem rep_lst {b : Bool} {ds : List D} {v : V} (h : Rep K Z H (.lst b ds) v []) : ∃ p vs, v = .ref p ∧ Rd H p (.lst vs) ∧ RepL K Z H ds vs [] := by
  cases b with
  | true => obtain ⟨p, vs, O', _, _, e, _⟩ := h; cases e
  | false => obtain ⟨p, vs, rfl, hp, _, _, hl⟩ := h; exact ⟨p, vs, rfl, hp, hl⟩
theorem rep_int {i : Int} {v : V} {O : List Adr} (h : Rep K Z H (.int i) v O) : v = .int i := h.1
theorem rep_bl {i : Bool} {v : V} {O : List Adr} (h : Rep K Z H (.bl i) v O) : v = .bl i := h.1
theorem rep_str {i : Str} {v : V} {O : List Adr} (h : Rep K Z H (.str i) v O) : v = .str i := h.1
theorem when_some {α : Type} {b : Bool} {x y : α} (h : when' b x = some y) : b = true ∧ x = y := by
  unfold when' at h
  split at h
  · rename_i c; exact ⟨c, Option.some.inj h⟩
  · cases h
theorem RepL.take_ {ds : List D} {vs : List V} (n : Nat) (h : RepL K Z H ds vs []) : RepL K Z H (ds.take n) (vs.take n) [] :=
  RepL.all (by simp [h.len]) fun i d v e1 e2 => by
    rw [List.getElem?_take] at e1 e2
    split at e1
    · rename_i hi
      rw [if_pos hi] at e2
      obtain ⟨w, e3, r⟩ := h.nil_of e1
      rw [e3] at e2; cases e2; exact r
    · cases e1
theorem RepL.drop_ {ds : List D} {vs : List V} (n : Nat) (h : RepL K Z H ds vs []) : RepL K Z H (ds.drop n) (vs.drop n) [] :=
  RepL.all (by simp [h.len]) fun i d v e1 e2 => by
    rw [List.getElem?_drop] at e1 e2
    obtain ⟨w, e3, r⟩ := h.nil_of e1
    rw [e3] at e2; cases e2; exact r
theorem RepL.rev_ {ds : List D} {vs : List V} (h : RepL K Z H ds vs []) : RepL K Z H ds.reverse vs.reverse [] :=
  RepL.all (by simp [h.len]) fun i d v e1 e2 => by
    have hi : i < ds.length := by have := (List.getElem?_eq_some_iff.mp e1).1; simpa using this
    rw [List.getElem?_reverse hi] at e1
    rw [List.getElem?_reverse (by rw [← h.len]; exact hi)] at e2
    obtain ⟨w, e3, r⟩ := h.nil_of e1
    rw [← h.len, e3] at e2; cases e2; exact r
theorem RepL.app_ {ds ds' : List D} {vs vs' : List V} (h : RepL K Z H ds vs []) (h' : RepL K Z H ds' vs' []) : RepL K Z H (ds ++ ds') (vs ++ vs') [] := by
  have := RepL.app h h'
  simpa using this
theorem RepL.rep_ {ds : List D} {vs : List V} (h : RepL K Z H ds vs []) : ∀ n : Nat, RepL K Z H (List.replicate n ds).flatten (List.replicate n vs).flatten []
  | 0 => ⟨rfl, rfl⟩
  | n + 1 => by
    simp only [List.replicate_succ, List.flatten_cons]
    exact RepL.app_ h (RepL.rep_ h n)
theorem RepL.ints : ∀ {ds : List D} {vs : List V} {O : List Adr} {l : List Int}, RepL K Z H ds vs O → intsD ds = some l → vs = l.map V.int
  | [], vs, O, l, h, e => by
    have : l = [] := (Option.some.inj e).symm
    rw [h.1, this]; rfl
  | d :: r, vs, O, l, h, e => by
    obtain ⟨v, ws, O1, O2, rfl, rfl, h1, h2⟩ := h
    cases d with
    | int i =>
      simp only [intsD] at e
      cases q : intsD r with
      | none => rw [q] at e; cases e
      | some l' =>
        rw [q] at e
        have e' : i :: l' = l := Option.some.inj e
        rw [← e', rep_int h1, RepL.ints h2 q]; rfl
    | _ => simp [intsD] at e

theorem or_add : OpR X (binaryOp .Add) (rd2 (f2 .add) X.K) := by
  intro pins s σ H x y v u Q I rx ry h
  obtain ⟨Z, a, b, r, ha, hb, hz, hf, hq⟩ := h
  cases a <;> cases b <;> try (simp [f2] at hf; done)
  case int.int i j =>
    cases (Option.some.inj hf)
    rw [rep_int ha] at rx; rw [rep_int hb] at ry
    exact op_add pins s σ H _ _ v u Q I rx ry ⟨i, j, rfl, rfl, done0 hq ⟨rfl, rfl⟩⟩
  case str.str i j =>
    obtain ⟨c, rfl⟩ := when_some hf
    rw [rep_str ha] at rx; rw [rep_str hb] at ry
    exact op_add_str pins s σ H _ _ v u Q I rx ry ⟨i, j, rfl, rfl, of_decide_eq_true c, done0 hq ⟨rfl, rfl⟩⟩
  case tup.tup i j =>
    obtain ⟨c, rfl⟩ := when_some hf
    obtain ⟨p, vs, rfl, hp, hl⟩ := rep_tup ha
    obtain ⟨q, ws, rfl, hp', hl'⟩ := rep_tup hb
    refine op_catA pins s σ H _ _ v u Q I rx ry ⟨p, q, vs, ws, rfl, rfl, hp, hp', ?_, fun e => ?_, fun _ e => ?_, fun _ _ t ht => ?_⟩
    · have := of_decide_eq_true c
      rw [hl.len, hl'.len] at this; exact this
    · have : i = [] := List.eq_nil_of_length_eq_zero (by rw [hl.len, e]; rfl)
      subst this
      exact done0 hq ⟨q, ws, rfl, hp', hl'⟩
    · have : j = [] := List.eq_nil_of_length_eq_zero (by rw [hl'.len, e]; rfl)
      subst this
      exact done0 hq ⟨p, vs, rfl, hp, by simpa using hl⟩
    · exact doneT hq (RepL.app_ hl hl') ht
  case lst.lst o i o' j =>
    obtain ⟨c, rfl⟩ := when_some hf
    obtain ⟨p, vs, rfl, hp, hl⟩ := rep_lst ha
    obtain ⟨q, ws, rfl, hp', hl'⟩ := rep_lst hb
    have hlen : vs.length + ws.length ≤ sizeLine := by
      have := of_decide_eq_true c
      rw [hl.len, hl'.len] at this; exact this
    cases rx
    cases ry
    obtain ⟨z, its, n, r1, e⟩ := hp.ok I.hok
    obtain ⟨z2, its2, n2, r2, e2⟩ := hp'.ok I.hok
    refine PySem.P.add_list e e2 ?_ (by rw [List.size_toArray, List.size_toArray, ← r1.length, ← r2.length]; exact hlen)
    refine ⟨.ref s.heap.objs.size, _, I.laid (t' := s.toks) (o := .lst (vs ++ ws)) (fun b ob q => Heap.get?_push_of_some _ q) (Nat.le_refl _) ?_, rfl, doneL hq (RepL.app_ hl hl') (I.hok.fresh (Nat.le_refl _))⟩
    exact ⟨by rw [List.length_append]; exact hlen, its ++ its2, 0, r1.append r2, by
      rw [Heap.get?_push_size _ rfl]
      simp⟩
theorem or_sub : OpR X (binaryOp .Sub) (rd2 (f2 .sub) X.K) := by
  intro pins s σ H x y v u Q I rx ry h
  obtain ⟨Z, a, b, r, ha, hb, hz, hf, hq⟩ := h
  cases a <;> cases b <;> try (simp [f2] at hf; done)
  case int.int i j =>
    cases (Option.some.inj hf)
    rw [rep_int ha] at rx; rw [rep_int hb] at ry
    exact op_sub pins s σ H _ _ v u Q I rx ry ⟨i, j, rfl, rfl, done0 hq ⟨rfl, rfl⟩⟩
theorem or_fdiv : OpR X (binaryOp .FloorDiv) (rd2 (f2 .fdiv) X.K) := by
  intro pins s σ H x y v u Q I rx ry h
  obtain ⟨Z, a, b, r, ha, hb, hz, hf, hq⟩ := h
  cases a <;> cases b <;> try (simp [f2] at hf; done)
  case int.int i j =>
    obtain ⟨c, rfl⟩ := when_some hf
    rw [rep_int ha] at rx; rw [rep_int hb] at ry
    have c' : 0 < j ∧ j.natAbs.log2 < 9000 := by simpa [okDiv] using c
    exact op_fdivW pins s σ H _ _ v u Q I rx ry ⟨i, j, rfl, rfl, c', done0 hq ⟨rfl, rfl⟩⟩
theorem or_mod : OpR X (binaryOp .Mod) (rd2 (f2 .mod) X.K) := by
  intro pins s σ H x y v u Q I rx ry h
  obtain ⟨Z, a, b, r, ha, hb, hz, hf, hq⟩ := h
  cases a <;> cases b <;> try (simp [f2] at hf; done)
  case int.int i j =>
    obtain ⟨c, rfl⟩ := when_some hf
    rw [rep_int ha] at rx; rw [rep_int hb] at ry
    exact op_mod pins s σ H _ _ v u Q I rx ry ⟨i, j, rfl, rfl, of_decide_eq_true c, done0 hq ⟨rfl, rfl⟩⟩
theorem or_pow : OpR X (binaryOp .Pow) (rd2 (f2 .pow) X.K) := by
  intro pins s σ H x y v u Q I rx ry h
  obtain ⟨Z, a, b, r, ha, hb, hz, hf, hq⟩ := h
  cases a <;> cases b <;> try (simp [f2] at hf; done)
  case int.int i j =>
    obtain ⟨c, rfl⟩ := when_some hf
    rw [rep_int ha] at rx; rw [rep_int hb] at ry
    have c' : (0 ≤ j ∧ j ≤ 1000000) ∧ i.natAbs < 2 ^ 64 := by simpa [okPow] using c
    exact op_pow pins s σ H _ _ v u Q I rx ry ⟨i, j, rfl, rfl, ⟨c'.1.1, c'.1.2, c'.2⟩, done0 hq ⟨rfl, rfl⟩⟩
theorem or_lt : OpR X (compareOp .Lt) (rd2 (f2 .lt) X.K) := by
  intro pins s σ H x y v u Q I rx ry h
  obtain ⟨Z, a, b, r, ha, hb, hz, hf, hq⟩ := h
  cases a <;> cases b <;> try (simp [f2] at hf; done)
  case int.int i j =>
    cases (Option.some.inj hf)
    rw [rep_int ha] at rx; rw [rep_int hb] at ry
    exact op_lt pins s σ H _ _ v u Q I rx ry ⟨i, j, rfl, rfl, done0 hq ⟨rfl, rfl⟩⟩
theorem or_le : OpR X (compareOp .LtE) (rd2 (f2 .le) X.K) := by
  intro pins s σ H x y v u Q I rx ry h
  obtain ⟨Z, a, b, r, ha, hb, hz, hf, hq⟩ := h
  cases a <;> cases b <;> try (simp [f2] at hf; done)
  case int.int i j =>
    cases (Option.some.inj hf)
    rw [rep_int ha] at rx; rw [rep_int hb] at ry
    exact op_le pins s σ H _ _ v u Q I rx ry ⟨i, j, rfl, rfl, done0 hq ⟨rfl, rfl⟩⟩
theorem or_gt : OpR X (compareOp .Gt) (rd2 (f2 .gt) X.K) := by
  intro pins s σ H x y v u Q I rx ry h
  obtain ⟨Z, a, b, r, ha, hb, hz, hf, hq⟩ := h
  cases a <;> cases b <;> try (simp [f2] at hf; done)
  case int.int i j =>
    cases (Option.some.inj hf)
    rw [rep_int ha] at rx; rw [rep_int hb] at ry
    exact op_gt pins s σ H _ _ v u Q I rx ry ⟨i, j, rfl, rfl, done0 hq ⟨rfl, rfl⟩⟩
theorem or_ge : OpR X (compareOp .GtE) (rd2 (f2 .ge) X.K) := by
  intro pins s σ H x y v u Q I rx ry h
  obtain ⟨Z, a, b, r, ha, hb, hz, hf, hq⟩ := h
  cases a <;> cases b <;> try (simp [f2] at hf; done)
  case int.int i j =>
    cases (Option.some.inj hf)
    rw [rep_int ha] at rx; rw [rep_int hb] at ry
    exact op_ge pins s σ H _ _ v u Q I rx ry ⟨i, j, rfl, rfl, done0 hq ⟨rfl, rfl⟩⟩
theorem f2_eq {a b r : D} (h : f2 .eq a b = some r) : (∃ x y, a = .str x ∧ b = .str y ∧ r = .bl (x == y)) ∨
    (plain a = true ∧ plain b = true ∧ SeqAt.shaped (py a) = true ∧ SeqAt.shaped (py b) = true ∧ r = .bl (PyData.eqv (py a) (py b))) := by
  unfold f2 at h
  split at h <;> first
    | contradiction
    | (left; exact ⟨_, _, rfl, rfl, (Option.some.inj h).symm⟩)
    | (right
       obtain ⟨c, e⟩ := when_some h
       simp only [Bool.and_eq_true] at c
       exact ⟨c.1.1.1, c.1.1.2, c.1.2, c.2, e.symm⟩)
theorem f2_ne {a b r : D} (h : f2 .ne a b = some r) : (∃ x y, a = .str x ∧ b = .str y ∧ r = .bl (!(x == y))) ∨
    (plain a = true ∧ plain b = true ∧ SeqAt.shaped (py a) = true ∧ SeqAt.shaped (py b) = true ∧ r = .bl (!PyData.eqv (py a) (py b))) := by
  unfold f2 at h
  split at h <;> first
    | contradiction
    | (left; exact ⟨_, _, rfl, rfl, (Option.some.inj h).symm⟩)
    | (right
       obtain ⟨c, e⟩ := when_some h
       simp only [Bool.and_eq_true] at c
       exact ⟨c.1.1.1, c.1.1.2, c.1.2, c.2, e.symm⟩)
theorem or_eq (hu : X.A.units + 64 < cLine) : OpR X (compareOp .Eq) (rd2 (f2 .eq) X.K) := by
  intro pins s σ H x y v u Q I rx ry h
  obtain ⟨Z, a, b, r, ha, hb, hz, hf, hq⟩ := h
  rcases f2_eq hf with ⟨i, j, rfl, rfl, rfl⟩ | ⟨p1, p2, s1, s2, rfl⟩
  · rw [rep_str ha] at rx; rw [rep_str hb] at ry
    refine op_eq pins s σ H _ _ v u Q I rx ry ⟨rfl, ?_⟩
    rw [dec_str]
    exact done0 hq ⟨rfl, rfl⟩
  · exact op_eqD hu pins s σ H _ _ v u Q I rx ry ⟨_, _, Rep.dp a ha p1, Rep.dp b hb p2, s1, s2, done0 hq ⟨rfl, rfl⟩⟩
theorem or_ne (hu : X.A.units + 64 < cLine) : OpR X (compareOp .NotEq) (rd2 (f2 .ne) X.K) := by
  intro pins s σ H x y v u Q I rx ry h
  obtain ⟨Z, a, b, r, ha, hb, hz, hf, hq⟩ := h
  rcases f2_ne hf with ⟨i, j, rfl, rfl, rfl⟩ | ⟨p1, p2, s1, s2, rfl⟩
  · rw [rep_str ha] at rx; rw [rep_str hb] at ry
    refine op_ne pins s σ H _ _ v u Q I rx ry ⟨rfl, ?_⟩
    rw [dec_str]
    exact done0 hq ⟨rfl, rfl⟩
  · exact op_neD hu pins s σ H _ _ v u Q I rx ry ⟨_, _, Rep.dp a ha p1, Rep.dp b hb p2, s1, s2, done0 hq ⟨rfl, rfl⟩⟩
def isNon : D → Bool
  | .non => true
  | _ => false
theorem rep_non {a : D} {x : V} {O : List Adr} (h : Rep K Z H a x O) : decide (x = .non) = isNon a := by
  cases a with
  | non => rw [h.1]; rfl
  | bl b => rw [h.1]; rfl
  | int b => rw [h.1]; rfl
  | str b => rw [h.1]; rfl
  | tup b => obtain ⟨p, vs, rfl, _⟩ := h; rfl
  | lst o b => cases o <;> (first | (obtain ⟨p, vs, _, rfl, _⟩ := h; rfl) | (obtain ⟨p, vs, rfl, _⟩ := h; rfl))
  | dic o b => cases o <;> (first | (obtain ⟨p, vs, _, rfl, _⟩ := h; rfl) | (obtain ⟨p, vs, rfl, _⟩ := h; rfl))
theorem or_is : OpR X (compareOp .Is) (rd2 (f2 .isN) X.K) := by
  intro pins s σ H x y v u Q I rx ry h
  obtain ⟨Z, a, b, r, ha, hb, hz, hf, hq⟩ := h
  have hb' : b = .non := by cases b <;> first | rfl | (cases a <;> simp [f2] at hf)
  subst hb'
  rw [show y = .non from hb.1] at ry
  refine op_isN pins s σ H _ _ v u Q I rx ry ⟨rfl, ?_⟩
  rw [rep_non ha]
  cases a <;> (cases (Option.some.inj hf); exact done0 hq ⟨rfl, rfl⟩)
theorem or_isnot : OpR X (compareOp .IsNot) (rd2 (f2 .notN) X.K) := by
  intro pins s σ H x y v u Q I rx ry h
  obtain ⟨Z, a, b, r, ha, hb, hz, hf, hq⟩ := h
  have hb' : b = .non := by cases b <;> first | rfl | (cases a <;> simp [f2] at hf)
  subst hb'
  rw [show y = .non from hb.1] at ry
  refine op_notN pins s σ H _ _ v u Q I rx ry ⟨rfl, ?_⟩
  rw [rep_non ha]
  cases a <;> (cases (Option.some.inj hf); exact done0 hq ⟨rfl, rfl⟩)
end
end Fr
end
section
set_option linter.all false
set_option autoImplicit true
set_option maxRecDepth 100000
/-! tuple * int where little comes; the products. -/
namespace Fr
open PySem L2 PyProof.Rows
/-- t * 1, () * k: t itself -/
theorem mul_self (l : Adr) (items : Array Value) (n : Nat) (dd : Option Adr) (sl : Array (Option Value)) (x : Int) (u : Tok) (c0 : (decide (x < -(2 ^ 63)) || decide (x ≥ 2 ^ 63)) = false) (c1 : (items.isEmpty || x == 1) = true) :
    Meets (Builtin.«tuple.__mul__» ⟨[.ref l, .int x u], []⟩) (fun _ R s => s.heap.get? l = some { cls := .type "tuple", dict := dd, data := .seq items n, slots := sl } ∧ R (.ok (.ret (Value.ref l))) s) :=
  .of_wp fun prog w A R s h => by
    obtain ⟨hp, g, d, tk, os⟩ := s
    obtain ⟨hl, h⟩ := h
    have f1 := AutoSeq1.idx_int
    have hT : Shared.TypeIs ⟨hp, g, d, tk, os⟩ (.ref l) "tuple" := ⟨_, hl, rfl⟩
    wp_walk using wpAny_loadPart' hl
    refine wpAny_ite_false (decide_eq_false (by rw [c0]; exact Bool.false_ne_true)) ?_
    wp_walk using wpAny_loadPart' hl
    exact ⟨_, rfl, h⟩
/-- t * k, k below 1: () -/
theorem mul_none (l : Adr) (items : Array Value) (n : Nat) (dd : Option Adr) (sl : Array (Option Value)) (x : Int) (u : Tok) (c0 : (decide (x < -(2 ^ 63)) || decide (x ≥ 2 ^ 63)) = false) (c1 : (items.isEmpty || x == 1) = false) (c2 : (decide (x ≤ 0) || items.isEmpty) = true) :
    Meets (Builtin.«tuple.__mul__» ⟨[.ref l, .int x u], []⟩) (fun _ R s => s.heap.get? l = some { cls := .type "tuple", dict := dd, data := .seq items n, slots := sl } ∧
      R (.ok (.ret (Value.ref s.heap.objs.size))) { s with heap := s.heap.push { cls := Value.type "tuple", data := Data.seq #[] }, toks := s.toks }) :=
  .of_wp fun prog w A R s h => by
    obtain ⟨hp, g, d, tk, os⟩ := s
    obtain ⟨hl, h⟩ := h
    have f1 := AutoSeq1.idx_int
    wp_walk using wpAny_loadPart' hl
    refine wpAny_ite_false (decide_eq_false (by rw [c0]; exact Bool.false_ne_true)) ?_
    wp_walk using wpAny_loadPart' hl
    exact ⟨_, rfl, h⟩
section
variable {X : Cx}
theorem or_mul : OpR X (binaryOp .Mult) (rd2 (f2 .mul) X.K) := by
  intro pins s σ H x y v u Q I rx ry h
  obtain ⟨Z, a, b, r, ha, hb, hz, hf, hq⟩ := h
  cases a <;> cases b <;> try (simp [f2] at hf; done)
  case int.int i j =>
    obtain ⟨c, rfl⟩ := when_some hf
    rw [rep_int ha] at rx; rw [rep_int hb] at ry
    exact op_mulW pins s σ H _ _ v u Q I rx ry ⟨i, j, rfl, rfl, by simpa [bigMul, CMulW] using c, done0 hq ⟨rfl, rfl⟩⟩
  case lst.int o i k =>
    obtain ⟨c, rfl⟩ := when_some hf
    simp only [okMulL, Bool.and_eq_true, decide_eq_true_eq] at c
    obtain ⟨⟨c1, c2⟩, c3⟩ := c
    obtain ⟨p, vs, rfl, hp, hl⟩ := rep_lst ha
    rw [rep_int hb] at ry
    cases rx
    obtain ⟨t, rfl⟩ := ry
    obtain ⟨z, its, n, r1, e⟩ := hp.ok I.hok
    have hlen : its.toArray.size * k.toNat ≤ sizeLine := by rw [List.size_toArray, ← r1.length, ← hl.len]; exact c3
    have z0 : sizeLine = 16777216 := by decide
    have q1 : ¬ (!Builtin.List.listFitsIndex k) = true := by rw [fitsIndex_both c1 c2]; simp
    have q2 : ¬ its.toArray.size * k.toNat > (2 ^ 63 - 1) / 8 := by rw [z0] at hlen; omega
    have q3 : ¬ Builtin.List.listTooLong (its.toArray.size * k.toNat) = true := by rw [notLongL hlen]; simp
    have all : ∀ m : Nat, List.foldl (fun a b => a ++ b) #[] (List.replicate m its.toArray) = (List.replicate m its).flatten.toArray := fun m => by
      simpa using foldl_rep its m []
    have same : List.foldl (fun a b => a ++ b) #[] (List.replicate (if its.toArray.isEmpty = true then 0 else k.toNat) its.toArray) = (List.replicate k.toNat its).flatten.toArray := by
      rw [all]
      cases its <;> simp
    have body : wpAny (model X.prog X.w) X.A (call (.builtin "list.__mul__") [.ref p, .int k t]) (EP X pins σ Q) X.xe s := call_meets F.slot_list_mul ⟨_, e, rfl⟩ F.entry_list_mul (F.args_list_mul_2 _ (.int k t)) (AutoListH.list___mul___list_int_3 p its.toArray n k t q1 q2 q3) ⟨e, by
      rw [same]
      refine ⟨.ref s.heap.objs.size, _, I.laid (t' := s.toks) (o := .lst (List.replicate k.toNat vs).flatten) (fun b ob q => Heap.get?_push_of_some _ q) (Nat.le_refl _) ?_, rfl, doneL hq (hl.rep_ _) (I.hok.fresh (Nat.le_refl _))⟩
      exact ⟨by rw [PyProof.Rows.lm_len_rep_flat, Nat.mul_comm, ← hl.len]; exact c3, _, 0, r1.rep k.toNat, Heap.get?_push_size _ rfl⟩⟩
    exact wpAny_binaryOp_repeat_ref (T := "list") (U := "int") (by decide) ⟨_, e, rfl⟩ (fun s' => typeIs_int s' k t) noFill_list_mul F.fills_int_mul F.slot_int_rmul repeat_list F.slot_int_index.lookup
      (call_meets F.slot_int_rmul (typeIs_int s k t) F.entry_int_rmul (F.args_int_rmul_2 _ _) (int___rmul___int_list k t p its.toArray n) ⟨e, rfl, ⟨_, e, rfl⟩, body⟩)
  case tup.int i k =>
    obtain ⟨c, rfl⟩ := when_some hf
    simp only [okMulT, Bool.and_eq_true, decide_eq_true_eq] at c
    obtain ⟨⟨c1, c2⟩, c3⟩ := c
    obtain ⟨p, vs, rfl, hp, hl⟩ := rep_tup ha
    rw [rep_int hb] at ry
    by_cases big : vs ≠ [] ∧ 2 ≤ k
    · refine op_repT pins s σ H _ _ v u Q I rx ry ⟨p, k, vs, rfl, rfl, hp, big.1, big.2, c2, by rw [← hl.len]; exact c3, fun t ht => doneT hq (hl.rep_ _) ht⟩
    · cases rx
      obtain ⟨t, rfl⟩ := ry
      obtain ⟨its, r1, ⟨⟨cls, dd, data, sl⟩, ho, hc, n, hd⟩, hs⟩ := I.tuple hp
      simp only at hc hd
      subst hc hd
      have hle := r1.length
      have c0 : (decide (k < -(2 ^ 63)) || decide (k ≥ 2 ^ 63)) = false := by
        rw [decide_eq_false (by omega), decide_eq_false (by omega)]; rfl
      have go : ∀ {Q' : Value → Shared → Prop}, wpAny (model X.prog X.w) X.A (call (.builtin "tuple.__mul__") [.ref p, .int k t]) Q' X.xe s → wpAny (model X.prog X.w) X.A (binaryOp .Mult (.ref p) (.int k t)) Q' X.xe s := fun h0 =>
        wpAny_binaryOp_repeat_ref (T := "tuple") (U := "int") (by decide) ⟨_, ho, rfl⟩ (fun s' => typeIs_int s' k t) noFill_tuple_mul F.fills_int_mul F.slot_int_rmul repeat_tuple F.slot_int_index.lookup
          (call_meets F.slot_int_rmul (typeIs_int s k t) F.entry_int_rmul (F.args_int_rmul_2 _ _) (int_rmul_tuple k t p its.toArray n dd sl) ⟨ho, rfl, ⟨_, ho, rfl⟩, h0⟩)
      by_cases h1 : (its.toArray.isEmpty || k == 1) = true
      · refine go (call_meets F.slot_tuple_mul ⟨_, ho, rfl⟩ F.entry_tuple_mul (F.args_tuple_mul_2 _ _) (mul_self p its.toArray n dd sl k t c0 h1) ⟨ho, ?_⟩)
        refine ⟨.ref p, H, I, rfl, done0 hq ⟨p, vs, rfl, hp, ?_⟩⟩
        rw [Bool.or_eq_true] at h1
        rcases h1 with h1 | h1
        · have e1 : its = [] := by cases its with | nil => rfl | cons a b => cases h1
          have e2 : vs = [] := List.eq_nil_of_length_eq_zero (by rw [hle, e1]; rfl)
          have e3 : i = [] := List.eq_nil_of_length_eq_zero (by rw [hl.len, e2]; rfl)
          subst e3
          have : (List.replicate k.toNat ([] : List D)).flatten = [] := by simp
          rw [this]; exact hl
        · have e1 : k = 1 := eq_of_beq h1
          subst e1
          have : (List.replicate (1 : Int).toNat i).flatten = i := by simp
          rw [this]; exact hl
      · have h1' : (its.toArray.isEmpty || k == 1) = false := by simpa using h1
        have hk : k ≤ 0 := by
          rw [Bool.or_eq_false_iff] at h1'
          have n1 : k ≠ 1 := by simpa using h1'.2
          have n2 : vs ≠ [] := fun e => by
            have : its = [] := List.eq_nil_of_length_eq_zero (by rw [← hle, e]; rfl)
            rw [this] at h1'; cases h1'.1
          have : ¬ 2 ≤ k := fun z => big ⟨n2, z⟩
          omega
        refine go (call_meets F.slot_tuple_mul ⟨_, ho, rfl⟩ F.entry_tuple_mul (F.args_tuple_mul_2 _ _) (mul_none p its.toArray n dd sl k t c0 h1' (by rw [decide_eq_true hk]; rfl)) ⟨ho, ?_⟩)
        refine ⟨.ref s.heap.objs.size, _, I.laid (t' := s.toks) (o := .tup []) (fun b ob q => Heap.get?_push_of_some _ q) (Nat.le_refl _) ?_, rfl, ?_⟩
        · exact ⟨Nat.zero_le _, [], .nil, IsTup.new _ _⟩
        · have e : (List.replicate k.toNat i).flatten = [] := by rw [show k.toNat = 0 by omega]; rfl
          rw [e] at hq
          exact doneT hq ⟨rfl, rfl⟩ (I.hok.fresh (Nat.le_refl _))
end
end Fr
end
section
set_option linter.all false
set_option autoImplicit true
set_option maxRecDepth 100000
/-! list(reversed(a list)). -/
namespace Fr
open PySem L2 PyProof.Rows RT PySem.W
section
variable {prog : Program} {w : World} {A : Around} {E : Value → Shared → Prop} {s : Shared} {S it l : Adr} {items : Array Value}
theorem rev_fill {R : Result → Shared → Prop} (hh : A.handled = none) (hi : s.heap.IsRevIter it l ((items.size : Int) - 1)) (hl : s.heap.IsList l items) (n1 : l ≠ it) (n2 : S ≠ it) (n3 : S ≠ l) (hn : items.size ≤ sizeLine) (c : Nat)
    (hS : s.heap.get? S = some { cls := .type "list", data := .seq #[] c })
    (hR : ∀ h' tk acc c', (∀ b o, b ≠ S → b ≠ it → s.heap.get? b = some o → h'.get? b = some o) → h'.get? S = some { cls := .type "list", dict := none, data := .seq acc c', slots := #[] } → ItemsOf (fun i v => items[items.size - 1 - i]? = some v) acc items.size → R (.ok (.ret .none)) { s with heap := h', toks := tk }) :
    wpAny (model prog w) A.in1 (Builtin.List.listExtendWith (.ref S) (.ref it) .none)
      (fun fin s' => match fin with | .done f => R (.ok f) s' | .again k => k.quiet = true ∧ codeAny (model prog w) A k R s') (fun e s' => R (.error e) s') s := by
  have W := (Walks.listRev (prog := prog) (w := w) (A := A.in1) hh it l n1 items).toS
  have nf : S ∉ [it, l] := by simp [n2, n3]
  have hT : s.TypeIs (.ref it) "list_reverseiterator" := hi.typeIs
  have h1 : Builtin.List.listSameRef (.ref S) (.ref it) = false := by simp [Builtin.List.listSameRef, n2]
  unfold Builtin.List.listExtendWith
  refine wpAny_bind (wpAny_typeOf hT ?_)
  rw [if_neg (by rw [h1]; decide)]
  refine wpAny_bind (wpAny_pyIter_revIter hi ?_)
  refine wpAny_bind (wpAny_holding ?_)
  unfold Builtin.List.listLengthHint
  refine wpAny_bind (wpAny_specialOf hT nolen_lri ?_)
  show wpAny _ A.in1 (specialOf (Value.ref it) (Str.ofString "__length_hint__") >>= _) _ _ s
  refine wpAny_bind (wpAny_specialOf hT hint_lri ?_)
  generalize hid : ("list_reverseiterator.__length_hint__" : String) = nm
  wp_delta
  rw [show splitId nm = some ("list_reverseiterator", "__length_hint__") from by subst hid; decide +kernel]
  subst hid
  refine wpAny_bind (wpAny_isInstance (b := true) hT (by rw [isSubtype_type]; kernel_rfl) (wpAny_pure ?_))
  rw [if_neg (by decide)]
  have e0 : ((items.size : Nat) : Int) - 1 - ((0 : Nat) : Int) = (items.size : Int) - 1 := by omega
  have st : (0 : Nat) ≤ items.size ∧ s.heap.IsRevIter it l ((items.size : Int) - 1 - ((0 : Nat) : Int)) ∧ s.heap.IsList l items := ⟨Nat.zero_le _, by rw [e0]; exact hi, hl⟩
  refine wpAny_pure ⟨plainId_quiet F.plain_extend_loop _, codeAny_extend_loopS W hn S nf .none items.size 0 s #[] c rfl (Nat.zero_le _) st hS (ItemsOf.nil _) fun s' acc c' hm hS' ha => ?_⟩
  rw [Moved.eq_with hm]
  refine hR s'.heap s'.toks acc c' (fun b o hb hb2 e => hm.heap b o (fun hmem => ?_) e) hS' ha
  rcases List.mem_cons.mp hmem with q | q
  · exact hb q
  · exact hb2 (List.mem_singleton.mp q)
/-- list(r), r the iterator -/
theorem call_list_rev {Q : Value → Shared → Prop} (hh : A.handled = none) (hi : s.heap.IsRevIter it l ((items.size : Int) - 1)) (hl : s.heap.IsList l items) (n1 : l ≠ it) (hn : items.size ≤ sizeLine)
    (hQ : ∀ h' tk acc c', (∀ b o, b ≠ it → s.heap.get? b = some o → h'.get? b = some o) → h'.get? s.heap.objs.size = some { cls := .type "list", dict := none, data := .seq acc c', slots := #[] } →
      ItemsOf (fun i v => items[items.size - 1 - i]? = some v) acc items.size → Q (.ref s.heap.objs.size) { s with heap := h', toks := tk }) : wpAny (model prog w) A (call (.type "list") [.ref it]) Q E s := by
  obtain ⟨oi, hoi, _⟩ := id hi
  obtain ⟨ol, hol, _⟩ := id hl
  have n2 : s.heap.objs.size ≠ it := Nat.ne_of_gt (Heap.lt_size hoi)
  have n3 : s.heap.objs.size ≠ l := Nat.ne_of_gt (Heap.lt_size hol)
  refine callType_codes (Q₁ := fun obj s1 => obj = .ref s.heap.objs.size ∧ s1 = { s with heap := s.heap.push { cls := .type "list", data := .seq #[] } }) F.called_list (F.typeCall_list_1 _) F.entry_list_init (code_list_new _ ⟨rfl, rfl⟩) fun obj s1 h1 => ?_
  obtain ⟨rfl, rfl⟩ := h1
  have hS : (s.heap.push { cls := .type "list", data := .seq #[] }).get? s.heap.objs.size = some { cls := .type "list", data := .seq #[] } := Heap.get?_push_size _ rfl
  refine ⟨⟨_, hS, rfl⟩, F.args_list_init_2 _ _, ?_⟩
  show wpAny _ _ (do let old ← Builtin.List.listItems (.ref s.heap.objs.size); Builtin.List.listUpdate (.ref s.heap.objs.size) (fun _ => #[]); letGo old.toList.reverse; Builtin.List.listExtendWith (.ref s.heap.objs.size) (.ref it) .none) _ _ _
  refine wpAny_bind ?_
  unfold Builtin.List.listItems
  refine wpAny_bind (wpAny_seqItems hS rfl (wpAny_pure ?_))
  refine wpAny_bind (m := updateSeq s.heap.objs.size fun _ => #[]) (wpAny_updateSeq hS rfl ?_)
  have hS2 := Heap.get?_update_self (Obj.mapSeq (fun _ => (#[] : Array Value))) hS rfl
  have oth : ∀ b o, b ≠ s.heap.objs.size → s.heap.get? b = some o → ((s.heap.push { cls := .type "list", data := .seq #[] }).update s.heap.objs.size (Obj.mapSeq (fun _ => (#[] : Array Value)))).get? b = some o :=
    fun b o hb e => (Heap.get?_update_other _ _ (Ne.symm hb)).trans (Heap.get?_push_of_some _ e)
  refine wpAny_bind (wpAny_letGo ?_)
  obtain ⟨oi', q1, q2, q3⟩ := hi
  obtain ⟨ol', r1, r2, nl, r3⟩ := hl
  refine rev_fill (A := A.in1) hh (S := s.heap.objs.size) (it := it) (l := l) (items := items) ⟨oi', oth _ _ n2.symm q1, q2, q3⟩ ⟨ol', oth _ _ n3.symm r1, r2, nl, r3⟩ n1 n2 n3 hn _ hS2 fun h' tk acc c' hk hS' ha => ?_
  exact ⟨rfl, hQ h' tk acc c' (fun b o hb e => hk b o (Nat.ne_of_lt (Heap.lt_size e)) hb (oth b o (Nat.ne_of_lt (Heap.lt_size e)) e)) hS' ha⟩
end
/-- list(reversed(e)) -/
def tLstRev (K : PySem.W.Frag) (te : TE) : TE := fun σ H Q => te σ H fun v H1 => ∃ a xs, v = .ref a ∧ SqL K H1 a xs ∧ ∀ q, H1 q = none → Q (.ref q) (upd H1 q (.lst xs.reverse))
theorem pe_lstRev {X : Cx} {e : Expr} {te : TE} {p p2 pos pos2 : Pos} (hc : X.calm = true) (hg : Gl X "list") (hm : X.mg "list" = none) (hg2 : Gl X "reversed") (hm2 : X.mg "reversed" = none) (he : PE X e te)
    (hs : starEach [e] X.env = (false, eval e X.env) :: starEach [] X.env)
    (hs2 : starEach [.Call (.Name "reversed" p2) [e] [] pos2] X.env = (false, eval (.Call (.Name "reversed" p2) [e] [] pos2) X.env) :: starEach [] X.env := by rfl) :
    PE X (.Call (.Name "list" p) [.Call (.Name "reversed" p2) [e] [] pos2] [] pos) (tLstRev X.K te) := by
  refine ⟨fun pins s σ H Q I h => ?_⟩
  refine Call_ (ld_blt I hg hm boot_list (PyProof.Rows.callWith_type1 (args_cons (Call_ (ld_blt I hg2 hm2 PyProof.Rows.boot_reversed (PyProof.Rows.callWith_type1
    (args_cons (thn (he.run pins s σ H _ I h) fun u s1 hx => args_nil ?_) hs) hs rfl))) hs2) hs2 rfl))
  obtain ⟨v, H1, I1, r1, a, xs, ev, hq, q⟩ := hx
  subst ev
  obtain rfl : u = Value.ref a := r1
  obtain ⟨its, rv, p', hz⟩ := I1.list hq
  refine call_reversed_list p'.isList (args_nil ?_)
  have I2 : Inv X pins σ H1 { s1 with heap := s1.heap.push (revObj a ((its.toArray.size : Int) - 1)) } := I1.kept (t' := s1.toks) fun b o e => Heap.get?_push_of_some _ e
  have hl := p'.isList
  obtain ⟨ol, hol, _⟩ := id hl
  have hne : a ≠ s1.heap.objs.size := Nat.ne_of_lt (Heap.lt_size hol)
  have hn : its.toArray.size ≤ sizeLine := by rw [List.size_toArray, ← rv.length]; exact hz
  refine call_list_rev (s := { s1 with heap := s1.heap.push (revObj a ((its.toArray.size : Int) - 1)) }) (I1.ok.hd hc) ⟨_, Heap.get?_push_size _ rfl, rfl, rfl⟩ (hl.push _) hne hn fun h' tk acc c' hk hS hi => ?_
  have nS : ({ s1 with heap := s1.heap.push (revObj a ((its.toArray.size : Int) - 1)) } : Shared).heap.objs.size = s1.heap.objs.size + 1 := by simp [Heap.push]
  rw [nS] at hS ⊢
  have hfree : H1 (s1.heap.objs.size + 1) = none := I1.hok.fresh (Nat.le_succ _)
  refine ⟨.ref (s1.heap.objs.size + 1), upd H1 (s1.heap.objs.size + 1) (.lst xs.reverse), ?_, rfl, q _ hfree⟩
  refine I2.turnedNew (t' := tk) (ch := [s1.heap.objs.size]) (fun b o hb e => hk b o (fun z => hb (by simp [z])) e) (fun b hb => ?_) (Nat.le_of_eq nS) ?_
  · obtain rfl : b = s1.heap.objs.size := by simpa using hb
    exact I1.fpOk (Nat.le_refl _) (I1.hok.fresh (Nat.le_refl _))
  · exact ⟨by rw [List.length_reverse]; exact hz, acc.toList, c', vals_rev rv hi, by rw [hS]⟩
end Fr
end
section
set_option linter.all false
set_option autoImplicit true
set_option maxRecDepth 100000
/-! xs[::-1] of a tuple or a list. -/
namespace Fr
open PySem L2 PyProof.Rows
theorem adjust_back (n : Nat) : Builtin.Slice.sliceAdjust none none (-1) (n : Int) = ((n : Int) - 1, -1) := by
  simp [Builtin.Slice.sliceAdjust]
theorem places_back (n : Nat) : Builtin.Slice.slicePlaces ((n : Int) - 1) (-1) (-1) = n := by
  simp [Builtin.Slice.slicePlaces]
  split <;> omega
theorem fm_congr {α β : Type} {f g : α → Option β} : ∀ {l : List α}, (∀ x ∈ l, f x = g x) → l.filterMap f = l.filterMap g
  | [], _ => rfl
  | a :: r, h => by
    rw [List.filterMap_cons, List.filterMap_cons, h a (by simp), fm_congr fun x hx => h x (by simp [hx])]
theorem back_pick (xs : Array Value) : (List.range xs.size).filterMap (fun (k : Nat) => xs[((xs.size : Int) - 1 + (k : Int) * (-1)).toNat]?) = xs.toList.reverse := by
  have e : (List.range xs.size).filterMap (fun (k : Nat) => xs[((xs.size : Int) - 1 + (k : Int) * (-1)).toNat]?) = ((List.range xs.size).map fun k => xs.size - 1 - k).filterMap (xs[·]?) := by
    rw [List.filterMap_map]
    refine fm_congr fun k hk => ?_
    have := List.mem_range.mp hk
    have e2 : ((xs.size : Int) - 1 + (k : Int) * (-1)).toNat = xs.size - 1 - k := by omega
    show xs[((xs.size : Int) - 1 + (k : Int) * (-1)).toNat]? = xs[xs.size - 1 - k]?
    rw [e2]
  have r : (List.range xs.size).map (fun k => xs.size - 1 - k) = (List.range xs.size).reverse := by
    rw [List.range_eq_range', List.reverse_range', ← List.range_eq_range']
    simp
  rw [e, r, List.filterMap_reverse, PySem.W.krv_all]
section
variable {prog : Program} {w : World} {A : Around} {E : Value → Shared → Prop} {s : Shared}
theorem item_back {t sl : Adr} {items : Array Value} {vl vu vs : Value} {Q : Value → Shared → Prop} (ht : IsTup s.heap t items) (hs : s.heap.IsSliceOf sl vl vu vs) (pl : IsPart vl none) (pu : IsPart vu none) (ps : IsPart vs (some (-1)))
    (h : Q (.ref s.heap.objs.size) { s with heap := s.heap.push { cls := .type "tuple", data := .seq items.toList.reverse.toArray } }) (hsz : items.size ≤ sizeLine) : wpAny (model prog w) A (getItem (.ref t) (.ref sl)) Q E s := by
  obtain ⟨os, hos, hcs, hds⟩ := id hs
  have hTs : s.TypeIs (.ref sl) "slice" := ⟨os, hos, hcs⟩
  unfold getItem
  try with_reducible refine wpAny_holding ?_
  first | refine wpAny_bind (wpAny_pure ?_) | skip
  refine wpAny_bind (wpAny_sequenceKey ht.typeIs (by decide) (wpAny_bind (wpAny_callSpecial?_slot (name := Str.ofString "__getitem__") ht.typeIs PyProof.Rows.slot_tuple_getitem
    (wpAny_call_entry PyProof.Rows.slot_tuple_getitem ht.typeIs entry_tuple_getitem ?_ (args_tuple_getitem _ _)))))
  show wpAny _ _ (Builtin.Tuple.tupleItemsOf (.ref t) >>= _) _ _ s
  refine wpAny_bind (PyProof.Rows.tupleItemsOf_ ht (wpAny_bind (wpAny_typeOf hTs ?_)))
  rw [if_pos (by decide)]
  have cut : ∀ {Q' : Int × Int × Nat → Shared → Prop}, Q' ((items.size : Int) - 1, -1, items.size) s → wpAny (model prog w) A.in1 (Builtin.Slice.sliceApplied (.ref sl) (pure (items.size : Int))) Q' E s := fun {Q'} q => by
    unfold Builtin.Slice.sliceApplied Builtin.Slice.sliceFields
    refine wpAny_bind (wpAny_bind (wpAny_field hos hds (x := vl) rfl (wpAny_bind (wpAny_field hos hds (x := vu) rfl (wpAny_bind (wpAny_field hos hds (x := vs) rfl (wpAny_pure ?_)))))))
    refine wpAny_bind (HT.slicePart_ ps ?_)
    show wpAny _ _ (if ((-1 : Int) == 0) = true then _ else _) _ _ s
    rw [if_neg (by decide)]
    refine wpAny_bind (HT.slicePart_ pl (wpAny_bind (HT.slicePart_ pu (wpAny_bind (wpAny_pure ?_)))))
    show wpAny _ _ (match Builtin.Slice.sliceAdjust none none (-1) (items.size : Int) with | (lo, hi) => pure (lo, (-1 : Int), Builtin.Slice.slicePlaces lo hi (-1))) _ _ s
    rw [adjust_back]
    show wpAny _ _ (pure ((items.size : Int) - 1, (-1 : Int), Builtin.Slice.slicePlaces ((items.size : Int) - 1) (-1) (-1))) _ _ s
    rw [places_back]
    exact wpAny_pure q
  refine wpAny_bind (cut ?_)
  show wpAny _ _ (if (((items.size : Int) - 1) == 0 && (-1 : Int) == 1 && items.size == items.size) = true then _ else _) _ _ s
  rw [if_neg (by simp), back_pick]
  first
    | exact wpAny_bind (m := Builtin.Tuple.tupleExact _) (wpAny_newObj_type (wpAny_pure ⟨_, rfl, wpAny_pure h⟩) (by show items.toList.reverse.toArray.size ≤ sizeLine; simpa using hsz))
    | exact wpAny_bind (m := Builtin.Tuple.tupleExact _) (wpAny_newObj_type (wpAny_bind (wpAny_pure (wpAny_pure ⟨_, rfl, wpAny_pure h⟩))) (by show items.toList.reverse.toArray.size ≤ sizeLine; simpa using hsz))
end
section
variable {X : Cx}
theorem pe_back {e : Expr} {te : TE} {k : Nat} {p1 p2 p3 pos : Pos} (he : PE X e te) : PE X (.Subscript e (.Slice none none (some (.UnaryOp .USub (.Constant (.int 1) k p1) p2)) p3) pos) (tUn (rd1 frev X.K) te) := by
  refine ⟨fun pins s σ H Q I h => ?_⟩
  refine Subscript_ (thn (he.run pins s σ H _ I h) fun v s1 ⟨x, H1, I1, r1, q1⟩ => ?_)
  obtain ⟨Z, a, r, ha, hz, hf, hq⟩ := q1
  have step : PO X (some (.UnaryOp .USub (.Constant (.int 1) k p1) p2)) (tPart (tUn (rU fun i => .int (-i)) (tC (.int 1)))) := po_some (pe_un un_neg pe_int)
  refine wpAny_Slice (thn (po_none.run pins s1 σ H1 (fun o G => o = none ∧ G = H1) I1 ⟨rfl, rfl⟩) fun vl s2 ⟨l, H2, I2, pl, el, e2⟩ => ?_)
  subst el e2
  refine thn (po_none.run pins s2 σ H2 (fun o G => o = none ∧ G = H2) I2 ⟨rfl, rfl⟩) fun vu s3 ⟨u, H3, I3, pu, eu, e3⟩ => ?_
  subst eu e3
  refine thn (step.run pins s3 σ H3 (fun o G => o = some (-1) ∧ G = H3) I3 ⟨1, rfl, -1, rfl, rfl, rfl⟩) fun vs s4 ⟨o, H4, I4, ps, eo, e4⟩ => ?_
  subst eo e4
  have I5 : Inv X pins σ H4 { s4 with heap := s4.heap.push { cls := .type "slice", data := .fields #[vl, vu, vs] } } := I4.kept (t' := s4.toks) fun b ob q => Heap.get?_push_of_some _ q
  cases a <;> try (simp [frev] at hf; done)
  case tup i =>
    cases (Option.some.inj hf)
    obtain ⟨p, xs, rfl, hp, hl⟩ := rep_tup ha
    cases r1
    obtain ⟨its, r, ht, hz⟩ := I5.tuple hp
    have hlen := r.length
    show wpAny (model X.prog X.w) X.A (subscriptTail e (.Slice none none (some (.UnaryOp .USub (.Constant (.int 1) k p1) p2)) p3) (.ref p) (.ref s4.heap.objs.size)) _ X.xe { s4 with heap := s4.heap.push { cls := .type "slice", data := .fields #[vl, vu, vs] } }
    refine tail_any (ops := [.ref p, .ref s4.heap.objs.size]) ht.typeIs (PyProof.Rows.slot_tuple_getitem.lookup) ?_ (by with_unfolding_all rfl)
    refine item_back ht (Heap.IsSliceOf.new _ vl vu vs) pl pu ps ?_ (by rw [List.size_toArray]; omega)
    refine ⟨.ref _, _, I5.laid (t' := s4.toks) (o := .tup xs.reverse) (fun b ob q => Heap.get?_push_of_some _ q) (Nat.le_refl _) ?_, rfl, doneT hq hl.rev_ (I5.hok.fresh (Nat.le_refl _))⟩
    exact ⟨by rw [List.length_reverse]; exact hz, _, r.reverse, IsTup.new _ _⟩
  case lst b i =>
    cases (Option.some.inj hf)
    obtain ⟨p, xs, rfl, hp, hl⟩ := rep_lst ha
    cases r1
    obtain ⟨its, r, ht, hz⟩ := I5.list (.inl hp)
    have hlen := r.length
    show wpAny (model X.prog X.w) X.A (subscriptTail e (.Slice none none (some (.UnaryOp .USub (.Constant (.int 1) k p1) p2)) p3) (.ref p) (.ref s4.heap.objs.size)) _ X.xe { s4 with heap := s4.heap.push { cls := .type "slice", data := .fields #[vl, vu, vs] } }
    refine tail_any (ops := [.ref p, .ref s4.heap.objs.size]) ht.isList.typeIs (PySem.slot_list_getitem.lookup) ?_ (by with_unfolding_all rfl)
    refine wpAny_getItem_list_slice ht.isList (Heap.IsSliceOf.new _ vl vu vs) pl pu ps (by decide) ?_ (by rw [List.size_toArray]; omega)
    rw [PySem.W.krv_pick]
    refine ⟨.ref _, _, I5.laid (t' := s4.toks) (o := .lst xs.reverse) (fun b ob q => Heap.get?_push_of_some _ q) (Nat.le_refl _) ?_, rfl, doneL hq hl.rev_ (I5.hok.fresh (Nat.le_refl _))⟩
    exact ⟨by rw [List.length_reverse]; exact hz, _, 0, r.reverse, Heap.get?_push_size _ rfl⟩
/-! ### items, slices -/
theorem atI_len {α β : Type} {xs : List α} {ys : List β} {i : Int} {x : α} (hl : xs.length = ys.length) (h : ((ixN xs.length i).bind fun j => xs[j]?) = some x) : ∃ (j : Nat) (y : β), xs[j]? = some x ∧ ys[j]? = some y ∧ atI ys i = some y := by
  unfold Fr.ixN at h
  cases e : L2.ixN xs.length i with
  | none => rw [e] at h; cases h
  | some j =>
    rw [e] at h
    have hj : xs[j]? = some x := h
    have lt := (List.getElem?_eq_some_iff.mp hj).1
    refine ⟨j, ys[j]'(by omega), hj, by simp, ?_⟩
    have e' : L2.ixN ys.length i = some j := by rw [← hl]; exact e
    unfold atI
    rw [e']
    simp
theorem ix_data : IxR X (rd2 fix' X.K) := by
  intro value slice pins s σ H x y v u Q I rx ry h hs
  obtain ⟨Z, a, b, r, ha, hb, hz, hf, hq⟩ := h
  cases b <;> try (cases a <;> simp [fix'] at hf; done)
  rename_i k
  rw [rep_int hb] at ry
  cases a <;> try (simp [fix'] at hf; done)
  case tup i =>
    obtain ⟨p, xs, rfl, hp, hl⟩ := rep_tup ha
    obtain ⟨j, y, e1, e2, e3⟩ := atI_len hl.len hf
    obtain ⟨v', e4, rr⟩ := hl.nil_of e1
    rw [e4] at e2; cases e2
    exact ix_tup value slice pins s σ H _ _ v u Q I rx ry ⟨p, xs, k, _, rfl, rfl, hp, e3, done0 hq rr⟩ hs
  case lst o i =>
    obtain ⟨p, xs, rfl, hp, hl⟩ := rep_lst ha
    obtain ⟨j, y, e1, e2, e3⟩ := atI_len hl.len hf
    obtain ⟨v', e4, rr⟩ := hl.nil_of e1
    rw [e4] at e2; cases e2
    exact ix_list value slice pins s σ H _ _ v u Q I rx ry ⟨p, xs, k, _, rfl, rfl, .inl hp, e3, done0 hq rr⟩ hs
theorem RepL.cut_ {K : PySem.W.Frag} {Z : Adr → Prop} {H : Hp} {ds : List D} {vs : List V} (lo hi : Option Int) (h : RepL K Z H ds vs []) : RepL K Z H (cut ds lo hi) (cutV vs lo hi) [] := by
  unfold cut cutV
  rw [h.len]
  exact RepL.take_ _ (RepL.drop_ _ h)
theorem sl_data : SlR X (fun x lo hi H Q => rd1 (fsl lo hi) X.K x H Q) := by
  intro pins s σ H x v vl vu lo hi sl Q I rx hs pl pu h
  obtain ⟨Z, a, r, ha, hz, hf, hq⟩ := h
  cases a <;> try (simp [fsl] at hf; done)
  case tup i =>
    cases (Option.some.inj hf)
    obtain ⟨p, xs, rfl, hp, hl⟩ := rep_tup ha
    refine sl_tupA pins s σ H _ v vl vu lo hi sl Q I rx hs pl pu ⟨p, xs, rfl, hp, fun w => ?_, fun _ q hq' => doneT hq (hl.cut_ lo hi) hq'⟩
    have e : cut i lo hi = i := by
      unfold cut
      rw [hl.len, w.1, w.2]
      simp [← hl.len]
    exact done0 hq ⟨p, xs, rfl, hp, by rw [e]; exact hl⟩
  case lst o i =>
    cases (Option.some.inj hf)
    obtain ⟨p, xs, rfl, hp, hl⟩ := rep_lst ha
    exact sl_list pins s σ H _ v vl vu lo hi sl Q I rx hs pl pu ⟨p, xs, rfl, .inl hp, fun q hq' => doneL hq (hl.cut_ lo hi) hq'⟩
end
end Fr
end
section
set_option linter.all false
set_option autoImplicit true
set_option maxRecDepth 100000
/-! The built-in calls on data. -/
namespace Fr
open PySem L2 PyProof.Rows
section
variable {X : Cx}
theorem cr_len : CallR X (.builtin "len") (rd (fb .len) X.K) := by
  intro pins s σ H vs us Q I rv h
  rcases rd_b h with ⟨x, rfl, Z, a, r, ha, hz, hf, hq⟩ | ⟨x, y, rfl, Z, a, b, r, _, _, _, hf, _⟩
  · cases a <;> try (simp [b1] at hf; done)
    case tup i =>
      cases (Option.some.inj hf)
      obtain ⟨p, xs, rfl, hp, hl⟩ := rep_tup ha
      refine call_len_seq pins s σ H _ us Q I rv ⟨p, xs, rfl, .inr hp, ?_⟩
      rw [← hl.len]; exact done0 hq ⟨rfl, rfl⟩
    case lst o i =>
      cases (Option.some.inj hf)
      obtain ⟨p, xs, rfl, hp, hl⟩ := rep_lst ha
      refine call_len_seq pins s σ H _ us Q I rv ⟨p, xs, rfl, .inl (.inl hp), ?_⟩
      rw [← hl.len]; exact done0 hq ⟨rfl, rfl⟩
    case str z =>
      obtain ⟨c, rfl⟩ := when_some hf
      rw [rep_str ha] at rv
      exact call_len_str pins s σ H _ us Q I rv ⟨z, rfl, of_decide_eq_true c, done0 hq ⟨rfl, rfl⟩⟩
  · simp [b2] at hf
theorem cr_abs : CallR X (.builtin "abs") (rd (fb .abs) X.K) := by
  intro pins s σ H vs us Q I rv h
  rcases rd_b h with ⟨x, rfl, Z, a, r, ha, hz, hf, hq⟩ | ⟨x, y, rfl, Z, a, b, r, _, _, _, hf, _⟩
  · cases a <;> try (simp [b1] at hf; done)
    case int i =>
      cases (Option.some.inj hf)
      rw [rep_int ha] at rv
      exact call_abs pins s σ H _ us Q I rv ⟨i, rfl, done0 hq ⟨rfl, rfl⟩⟩
  · simp [b2] at hf
theorem cr_int : CallR X (.type "int") (rd (fb .int) X.K) := by
  intro pins s σ H vs us Q I rv h
  rcases rd_b h with ⟨x, rfl, Z, a, r, ha, hz, hf, hq⟩ | ⟨x, y, rfl, Z, a, b, r, _, _, _, hf, _⟩
  · cases a <;> try (simp [b1] at hf; done)
    case int i =>
      cases (Option.some.inj hf)
      rw [rep_int ha] at rv
      exact call_int1 pins s σ H _ us Q I rv (.inl ⟨i, rfl, done0 hq ⟨rfl, rfl⟩⟩)
    case bl i =>
      cases (Option.some.inj hf)
      rw [rep_bl ha] at rv
      exact call_int1 pins s σ H _ us Q I rv (.inr ⟨i, rfl, done0 hq ⟨rfl, rfl⟩⟩)
  · simp [b2] at hf
theorem cr_min2 (hc : X.calm = true) : CallR X (.builtin "min") (rd (fb .min) X.K) := by
  intro pins s σ H vs us Q I rv h
  rcases rd_b h with ⟨x, rfl, Z, a, r, ha, hz, hf, hq⟩ | ⟨x, y, rfl, Z, a, b, r, ha, hb, _, hf, hq⟩
  · simp [b1] at hf
  · cases a <;> cases b <;> try (simp [b2] at hf; done)
    cases (Option.some.inj hf)
    rw [rep_int ha, rep_int hb] at rv
    exact call_min2 hc pins s σ H _ us Q I rv ⟨_, _, rfl, done0 hq ⟨rfl, rfl⟩⟩
theorem cr_max2 (hc : X.calm = true) : CallR X (.builtin "max") (rd (fb .max) X.K) := by
  intro pins s σ H vs us Q I rv h
  rcases rd_b h with ⟨x, rfl, Z, a, r, ha, hz, hf, hq⟩ | ⟨x, y, rfl, Z, a, b, r, ha, hb, _, hf, hq⟩
  · simp [b1] at hf
  · cases a <;> cases b <;> try (simp [b2] at hf; done)
    cases (Option.some.inj hf)
    rw [rep_int ha, rep_int hb] at rv
    exact call_max2 hc pins s σ H _ us Q I rv ⟨_, _, rfl, done0 hq ⟨rfl, rfl⟩⟩
theorem cr_sumD (hc : X.calm = true) : CallR X (.builtin "sum") (rd (fb .sum) X.K) := by
  intro pins s σ H vs us Q I rv h
  rcases rd_b h with ⟨x, rfl, Z, a, r, ha, hz, hf, hq⟩ | ⟨x, y, rfl, Z, a, b, r, _, _, _, hf, _⟩
  · cases a <;> try (simp [b1] at hf; done)
    case lst o i =>
      cases e : intsD i with
      | none => simp [b1, e] at hf
      | some l =>
        simp only [b1, e, Option.map_some, Option.some.injEq] at hf
        subst hf
        obtain ⟨p, xs, rfl, hp, hl⟩ := rep_lst ha
        have e2 := RepL.ints hl e
        subst e2
        exact cr_sum hc pins s σ H _ us Q I rv ⟨p, l, rfl, .inl hp, done0 hq ⟨rfl, rfl⟩⟩
    case tup i =>
      cases e : intsD i with
      | none => simp [b1, e] at hf
      | some l =>
        simp only [b1, e, Option.map_some, Option.some.injEq] at hf
        subst hf
        obtain ⟨p, xs, rfl, hp, hl⟩ := rep_tup ha
        have e2 := RepL.ints hl e
        subst e2
        obtain ⟨u, rfl, ru⟩ := vals1 rv
        cases ru
        obtain ⟨its, r1, ht, _⟩ := I.tuple hp
        obtain ⟨ys, ey⟩ := (intsAre_of r1).allInts.items
        have hn : numsOf its.toArray.toList = l := by rw [show its.toArray.toList = its from rfl, (intsAre_of r1).numsOf]
        have ht' : s.heap.IsTuple p its.toArray := ht
        rw [ey] at ht' hn
        rw [nums_intItems] at hn
        refine PySem.W.ktm_sumG (I.ok.hd hc) ht' fun h' tk t' hk => ?_
        rw [preSum_eq, List.take_of_length_le (by simp), hn]
        exact ⟨.int l.sum, H, I.kept (t' := tk) hk, ⟨_, rfl⟩, done0 hq ⟨rfl, rfl⟩⟩
  · simp [b2] at hf
theorem cr_tuple : CallR X (.type "tuple") (rd (fb .tuple) X.K) := by
  intro pins s σ H vs us Q I rv h
  rcases rd_b h with ⟨x, rfl, Z, a, r, ha, hz, hf, hq⟩ | ⟨x, y, rfl, Z, a, b, r, _, _, _, hf, _⟩
  · cases a <;> try (simp [b1] at hf; done)
    case tup i =>
      cases (Option.some.inj hf)
      obtain ⟨p, xs, rfl, hp, hl⟩ := rep_tup ha
      exact call_tuple_of pins s σ H _ us Q I rv ⟨p, xs, rfl, .inr ⟨hp, done0 hq ha⟩⟩
    case lst o i =>
      cases (Option.some.inj hf)
      obtain ⟨p, xs, rfl, hp, hl⟩ := rep_lst ha
      exact call_tuple_of pins s σ H _ us Q I rv ⟨p, xs, rfl, .inl ⟨.inl hp, fun q hq' => doneT hq hl hq'⟩⟩
  · simp [b2] at hf
theorem cr_list : CallR X (.type "list") (rd (fb .list) X.K) := by
  intro pins s σ H vs us Q I rv h
  rcases rd_b h with ⟨x, rfl, Z, a, r, ha, hz, hf, hq⟩ | ⟨x, y, rfl, Z, a, b, r, _, _, _, hf, _⟩
  · cases a <;> try (simp [b1] at hf; done)
    case tup i =>
      cases (Option.some.inj hf)
      obtain ⟨p, xs, rfl, hp, hl⟩ := rep_tup ha
      exact call_list_of pins s σ H _ us Q I rv ⟨p, xs, rfl, .inr hp, fun q hq' => doneL hq hl hq'⟩
    case lst o i =>
      cases (Option.some.inj hf)
      obtain ⟨p, xs, rfl, hp, hl⟩ := rep_lst ha
      exact call_list_of pins s σ H _ us Q I rv ⟨p, xs, rfl, .inl (.inl hp), fun q hq' => doneL hq hl hq'⟩
  · simp [b2] at hf
/-! ### isinstance -/
def tyName : Ty → String
  | .int => "int" | .bool => "bool" | .str => "str" | .list => "list" | .tuple => "tuple" | .dict => "dict"
def dTy : D → String
  | .non => "NoneType" | .bl _ => "bool" | .int _ => "int" | .str _ => "str" | .tup _ => "tuple" | .lst _ _ => "list" | .dic _ _ _ => "dict"
theorem rep_ty {K : PySem.W.Frag} {Z : Adr → Prop} {H : Hp} {d : D} {v : V} (h : Rep K Z H d v []) : TyX K H v (.type (dTy d)) := by
  cases d with
  | non => rw [h.1]; exact .base .non
  | bl b => rw [h.1]; exact .base (.bl b)
  | int b => rw [h.1]; exact .base (.int b)
  | str b => rw [h.1]; exact .base (.str b)
  | tup ds =>
    obtain ⟨p, vs, rfl, ht, _⟩ := h
    rcases ht with (ht | ⟨o, ht⟩) | ⟨o, its, n, ht, hc, _⟩
    · exact .base (.tup ht)
    · exact .fTuple ht
    · exact .kTuple ht hc
  | lst b ds =>
    obtain ⟨p, vs, rfl, hp, _⟩ := rep_lst h
    rcases hp with hp | ⟨o, hp⟩
    · exact .base (.lst hp)
    · exact .base (.frz hp)
  | dic b ks ds =>
    cases b with
    | true => obtain ⟨p, vs, O', _, _, _, e, _⟩ := h; cases e
    | false =>
      obtain ⟨p, vs, rfl, hp, _⟩ := h
      rcases hp with hp | ⟨o, hp⟩
      · exact .base (.dK hp)
      · exact .fDict hp
theorem kit_all (t : Ty) (d : D) : kitB (dTy d) (tyName t) = some (isTy t d) := by
  cases t <;> cases d <;> (first | decide +kernel | kernel_rfl)
/-- isinstance(x, T): T by its name -/
theorem cr_isi (t : Ty) : CallR X (.builtin "isinstance") (fun vs H Q => ∃ x, vs = [x, .ty (tyName t)] ∧ rd1 (b1 (.isi t)) X.K x H Q) := by
  intro pins s σ H vs us Q I rv h
  obtain ⟨x, rfl, Z, a, r, ha, hz, hf, hq⟩ := h
  cases (Option.some.inj hf)
  exact call_isi pins s σ H _ us Q I rv ⟨x, _, .type (dTy a), .type (tyName t), isTy t a, rfl, .ty _, rep_ty ha, kit_ty (kit_all t a), done0 hq ⟨rfl, rfl⟩⟩
end
end Fr
end
section
set_option linter.all false
set_option autoImplicit true
set_option maxRecDepth 100000
/-! enumerate(a tuple). -/
namespace Fr
open PySem L2 PyProof.Rows
open AutoSeq1 (wpAny_loadPart')
theorem enum_new (l : Adr) (items : Array Value) (n : Nat) (dct : Option Adr) (sl : Array (Option Value)) :
    Meets (Builtin.«enumerate.__new__» ⟨[.type "enumerate", .ref l], []⟩) (fun _ R s => s.heap.get? l = some { cls := .type "tuple", dict := dct, data := .seq items n, slots := sl } ∧
      R (.ok (.ret (.ref (s.heap.push { cls := .type "tuple_iterator", data := .fields #[.ref l, .int 0 0] }).objs.size)))
        { s with heap := (s.heap.push { cls := .type "tuple_iterator", data := .fields #[.ref l, .int 0 0] }).push { cls := .type "enumerate", data := .fields #[.none, .bool false, .ref s.heap.objs.size, rawInt 0, .none, .none] } }) :=
  .of_wp fun prog w A R s h => by
    obtain ⟨hp, g, d, tk, os⟩ := s
    obtain ⟨hl, h⟩ := h
    have hsub := sub_enumerate
    have hT : Heap.IsTuple (Shared.heap ⟨hp, g, d, tk, os⟩) l items := ⟨_, hl, rfl, n, rfl⟩
    wp_walk using wpAny_loadPart' hl
    refine wpAny_stack_any fun st => wpAny_pure ?_
    split
    · rename_i c _ _ _ _ _
      cases (c == Value.type "enumerate") <;>
        (wp_walk using wpAny_loadPart' hl, wpAny_pyIter_tuple hT
         exact ⟨_, rfl, h⟩)
    · wp_walk using wpAny_loadPart' hl, wpAny_pyIter_tuple hT
      exact ⟨_, rfl, h⟩
section
variable {prog : Program} {w : World} {A : Around} {E : Value → Shared → Prop} {s : Shared}
theorem call_enum_tup {l : Adr} {items : Array Value} {Q : Value → Shared → Prop} (hT : s.heap.IsTuple l items)
    (h : ∀ h', IsEnum h' (s.heap.objs.size + 1) s.heap.objs.size 0 .none → h'.IsTupleIter s.heap.objs.size l 0 → (∀ b o, s.heap.get? b = some o → h'.get? b = some o) → Q (.ref (s.heap.objs.size + 1)) { s with heap := h' }) :
    wpAny (model prog w) A (call (.type "enumerate") [.ref l]) Q E s := by
  obtain ⟨⟨c, dct, dt, sl⟩, hl, hc, n, hd⟩ := hT
  replace hc : c = .type "tuple" := hc
  replace hd : dt = .seq items n := hd
  subst hc hd
  refine callType_new F.called_enumerate (by decide) (F.typeCall_enumerate_1 _) (F.newCall_enumerate_1 _) (fun obj => F.args_object_init_2 obj _) F.entry_enumerate_new (enum_new l items n dct sl) ⟨hl, ?_⟩
  have hz : (s.heap.push { cls := .type "tuple_iterator", data := .fields #[.ref l, .int 0 0] }).objs.size = s.heap.objs.size + 1 := Heap.size_push ..
  show _ ∧ _
  rw [hz]
  have he : IsEnum ((s.heap.push { cls := .type "tuple_iterator", data := .fields #[.ref l, .int 0 0] }).push { cls := .type "enumerate", data := .fields #[.none, .bool false, .ref s.heap.objs.size, rawInt 0, .none, .none] }) (s.heap.objs.size + 1) s.heap.objs.size 0 .none := by
    have q := Heap.get?_push_size (s.heap.push { cls := .type "tuple_iterator", data := .fields #[.ref l, .int 0 0] }) (o := { cls := .type "enumerate", data := .fields #[.none, .bool false, .ref s.heap.objs.size, rawInt 0, .none, .none] }) rfl
    rw [hz] at q
    exact q
  refine ⟨⟨_, he, rfl⟩, h _ he ?_ fun b o e => Heap.get?_push_of_some _ (Heap.get?_push_of_some _ e)⟩
  exact ⟨_, Heap.get?_push_of_some _ (Heap.get?_push_size _ rfl), rfl, rfl⟩
end
/-- the tuple at a, each item in a new pair -/
def IteT (K : PySem.W.Frag) (a : Adr) (n : Nat) : L2.It :=
  ⟨fun i H => ∃ (xs : List V) (x : V), SqT K H a xs ∧ xs.length = n ∧ xs[i]? = some x, fun i H v H' => ∃ T x, v = .ref T ∧ H T = none ∧ H' = upd H T (.tup [.int (i : Nat), x]) ∧ ∀ xs, SqT K H a xs → xs[i]? = some x, fun i H => ∃ xs : List V, SqT K H a xs ∧ xs.length = n ∧ n ≤ i⟩
theorem SqT.stay {K : PySem.W.Frag} {H : Hp} {a T : Adr} {xs : List V} {o : HO} (h : SqT K H a xs) (n : H T = none) : SqT K (upd H T o) a xs := SqT.keep h fun p u e _ => same_upd n p u e
theorem turn_enumT {P : Program} {w : World} {K : PySem.W.Frag} {elts : List Expr} {kk : Nat} {tpos : Pos} (a e it : Adr) (n : Nat) :
    Turn P w K (.Tuple elts kk tpos) (IteT K a n) [e, it] e (fun i h => i ≤ n ∧ (∃ old, IsEnum h e it ((i : Nat) : Int) old) ∧ h.IsTupleIter it a i ∧ e ≠ it) where
  mem := by simp
  obj := fun i h st b hb => by
    obtain ⟨_, ⟨old, he⟩, ⟨o, ho, hc, hd⟩, _⟩ := st
    rcases (by simpa using hb : b = e ∨ b = it) with z | z
    · rw [z]; exact ⟨_, he, fun v q => nomatch q⟩
    · rw [z]; exact ⟨o, ho, fun v q => by rw [hd] at q; cases q⟩
  keep := fun i h h' ⟨le, ⟨old, he⟩, hi, hne⟩ k => ⟨le, ⟨old, k e (by simp) _ he⟩, hi.at fun o q => k it (by simp) o q, hne⟩
  item := by
    intro X hP hw hK hc i pins s σ H E I hf st hg
    subst hP hw hK
    obtain ⟨_, ⟨old, he⟩, hit, hne⟩ := st
    obtain ⟨xs, x, hq, hn, hx⟩ := hg
    obtain ⟨its, rv, p, hz⟩ := I.tuple hq
    obtain ⟨u, hu, ru⟩ := rv.get hx
    have hel : e < s.heap.objs.size := Heap.lt_size he
    have hil : it < s.heap.objs.size := by obtain ⟨_, q, _⟩ := hit; exact Heap.lt_size q
    have hT : s.heap.IsTuple a its.toArray := p
    have lt : i < its.toArray.size := by simpa using (List.getElem?_eq_some_iff.mp hu).1
    by_cases hae : a = e ∨ a = it
    · exfalso
      obtain ⟨o1, q1, c1, _⟩ := hT
      rcases hae with z | z
      · rw [z] at q1; rw [show s.heap.get? e = _ from he] at q1; cases q1; exact absurd (show Value.type "enumerate" = .type "tuple" from c1) (by decide)
      · obtain ⟨o2, q2, c2, _⟩ := hit
        rw [z, q2] at q1; cases q1; rw [c2] at c1; exact absurd c1 (by decide)
    · have hae' : a ≠ e ∧ a ≠ it := ⟨fun z => hae (.inl z), fun z => hae (.inr z)⟩
      refine wpAny_pyNext_enum_itemD (Draws.tuple (prog := X.prog) (w := X.w) (A := X.A.in1) (I.ok.hd hc) it a hae'.2 its.toArray) he ⟨hit, hT⟩ lt hne (by simp [hne, hae'.1.symm]) fun y h' tk hy ho hst hT2 hsz hk => ?_
      have ey : y = u := by
        have : its.toArray[i]? = some u := by simpa using hu
        rw [this] at hy; exact (Option.some.inj hy).symm
      subst ey
      refine ⟨_, rfl, wpAny_letOwnedTupleGo_enum (s := { s with heap := h', toks := tk + 1 }) ho fun h'' he' sb => ?_⟩
      have hT3 : h''.get? s.heap.objs.size = some { cls := .type "tuple", data := .seq #[.int i tk, y] } := (sb.2 _ (Nat.ne_of_gt hel)).trans hT2
      have new : ObjOk X.prog X.w (upd H s.heap.objs.size (.tup [.int (i : Nat), x])) h'' s.heap.objs.size (.tup [.int (i : Nat), x]) :=
        ⟨by show 2 ≤ sizeLine; decide, [.int i tk, y], .cons ⟨_, rfl⟩ (.cons ru .nil), ⟨_, hT3, rfl, _, rfl⟩⟩
      have I1 : Inv X pins σ (upd H s.heap.objs.size (.tup [.int (i : Nat), x])) { s with heap := h'', toks := tk + 1 } :=
        I.turnedNew (ch := [e, it]) (fun b ob hb q => (sb.2 b (fun z => hb (by simp [z]))).trans (hk b ob (fun z => hb (by simp [z])) (fun z => hb (by simp [z])) q)) hf (Nat.le_refl _) new
      refine ⟨.ref s.heap.objs.size, _, I1, rfl, ⟨_, x, rfl, I.hok.fresh (Nat.le_refl _), rfl, fun ys hy' => by rw [I.tuple_inj hy' hq]; exact hx⟩, ⟨by have := (List.getElem?_eq_some_iff.mp hx).1; omega, ⟨y, ?_⟩, hst.1.at fun o q => (sb.2 it (Ne.symm hne)).trans q, hne⟩, fun b hb => ?_⟩
      · have e1 : ((i + 1 : Nat) : Int) = (i : Int) + 1 := by omega
        rw [e1]; exact he'
      · have hb' : b < s.heap.objs.size := by
          rcases (by simpa using hb : b = e ∨ b = it) with z | z
          · rw [z]; exact hel
          · rw [z]; exact hil
        rw [upd_ne (Nat.ne_of_lt hb')]
        exact (hf b hb).1
  done := by
    intro X hP hw hK hc i pins s σ H E I hf st hg
    subst hP hw hK
    obtain ⟨le, ⟨old, he⟩, hit, hne⟩ := st
    obtain ⟨xs, hq, hn, hx⟩ := hg
    obtain ⟨its, rv, p, hz⟩ := I.tuple hq
    obtain ⟨f0, f1, f2, f3, f4, f5⟩ := hf it (by simp)
    have hl := rv.length
    have hT : s.heap.IsTuple a its.toArray := p
    have hai : a ≠ it := fun z => by
      obtain ⟨o1, q1, c1, _⟩ := hT
      obtain ⟨o2, q2, c2, _⟩ := hit
      rw [z, q2] at q1; cases q1; rw [c2] at c1; exact absurd c1 (by decide)
    have ei : i = its.toArray.size := by simp; omega
    rw [ei] at hit he
    exact wpAny_pyNext_enum_endD (Draws.tuple (prog := X.prog) (w := X.w) (A := X.A.in1) (I.ok.hd hc) it a hai its.toArray) he ⟨hit, hT⟩ fun h' eb => ⟨rfl, I.turned (t' := s.toks) (fun b o hb q => eb b o hb q) f0 f1 f3 f4 f5⟩
  self := fun A i s Q E st h => let ⟨_, ⟨_, he⟩, _⟩ := st; wpAny_pyIter_enum he h
def iEnumT (K : PySem.W.Frag) (ta : TA) : TI := fun σ H R => ta σ H fun vs H1 => ∃ a xs, vs = [.ref a] ∧ SqT K H1 a xs ∧ R (IteT K a xs.length) H1
theorem pi_enumT {X : Cx} {e : Expr} {ta : TA} {p pos tpos : Pos} {elts : List Expr} {kk : Nat} (hg : Gl X "enumerate") (hm : X.mg "enumerate" = none) (ha : PA X [e] ta) (hs : starEach [e] X.env = [(false, eval e X.env)]) :
    PI X (.Tuple elts kk tpos) (.Call (.Name "enumerate" p) [e] [] pos) (iEnumT X.K ta) := by
  refine ⟨fun pins s σ H R I h => ?_⟩
  refine Call_ (ld_blt I hg hm boot_enumerate (PyProof.Rows.callWith_type1 (thn (ha.run pos pins s σ H _ I h) fun us s1 hx => ?_) hs rfl))
  obtain ⟨vs, H1, I1, r1, a, xs, ex, hq, q⟩ := hx
  subst ex
  obtain ⟨u, rfl, r⟩ := vals1 r1
  cases r
  obtain ⟨its, rv, p', hz⟩ := I1.tuple hq
  refine call_enum_tup (items := its.toArray) p' fun h' he hit hk => wpAny_pyIter_enum he ?_
  have I2 : Inv X pins σ H1 { s1 with heap := h' } := I1.kept (t' := s1.toks) hk
  refine ⟨s1.heap.objs.size + 1, [s1.heap.objs.size + 1, s1.heap.objs.size], _, _, H1, rfl, I2, turn_enumT a (s1.heap.objs.size + 1) s1.heap.objs.size xs.length, ⟨Nat.zero_le _, ⟨.none, he⟩, hit, Nat.succ_ne_self _⟩, fun b hb => ?_, q⟩
  have hle : s1.heap.objs.size ≤ b := by
    rcases (by simpa using hb : b = s1.heap.objs.size + 1 ∨ b = s1.heap.objs.size) with z | z
    · rw [z]; exact Nat.le_succ _
    · rw [z]; exact Nat.le_refl _
  exact I1.fpOk hle (I1.hok.fresh hle)
end Fr
end
section
set_option linter.all false
set_option autoImplicit true
set_option maxRecDepth 100000
/-! Expressions: what the evaluator says is what the machine does. -/
namespace Fr
open PySem L2 PyProof.Rows
theorem _root_.L2.PE.imp {X : Cx} {e : Expr} {t t' : TE} (h : PE X e t) (i : ∀ σ H Q, t' σ H Q → t σ H Q) : PE X e t' := ⟨fun pins s σ H Q I q => h.run pins s σ H Q I (i σ H Q q)⟩
theorem _root_.L2.PA.imp {X : Cx} {es : List Expr} {t t' : TA} (h : PA X es t) (i : ∀ σ H Q, t' σ H Q → t σ H Q) : PA X es t' := ⟨fun pos pins s σ H Q I q => h.run pos pins s σ H Q I (i σ H Q q)⟩
theorem _root_.L2.PT.imp {X : Cx} {e : Expr} {t t' : TT} (h : PT X e t) (i : ∀ σ H Q, t' σ H Q → t σ H Q) : PT X e t' := ⟨fun pins s σ H Q I q => h.run pins s σ H Q I (i σ H Q q)⟩
theorem _root_.L2.PK.imp {X : Cx} {es : List Keyword} {t t' : TA} (h : PK X es t) (i : ∀ σ H Q, t' σ H Q → t σ H Q) : PK X es t' := ⟨fun pos pins s σ H Q I q => h.run pos pins s σ H Q I (i σ H Q q)⟩
abbrev Sem1 := Env → Option (Opd × Env)
abbrev Sems := Env → Option (List Opd × Env)
/-- the slots that keep their value -/
class PinM where
  m : List Nat
def GOk [PinM] (G : Gx) (K : PySem.W.Frag) : Prop := G.K = K ∧ ∀ q ∈ G.pins, q.1 ∈ PinM.m
def tE [PinM] (K : PySem.W.Frag) (c : Sem1) : TE := fun σ H Q => ∃ G Z E ts o E', GOk G K ∧ Cf G Z H σ E ts ∧ c E = some (o, E') ∧ ∀ Z' H' v, Cf G Z' H' σ E' ((o, v) :: ts) → Q v H'
def tEs [PinM] (K : PySem.W.Frag) (c : Sems) : TA := fun σ H Q => ∃ G Z E ts os E', GOk G K ∧ Cf G Z H σ E ts ∧ c E = some (os, E') ∧ ∀ Z' H' vs, os.length = vs.length → Cf G Z' H' σ E' (os.zip vs ++ ts) → Q vs H'
/-- a test -/
def tB' [PinM] (K : PySem.W.Frag) (c : Sem1) : TT := fun σ H Q => ∃ G Z E ts o E' b, GOk G K ∧ Cf G Z H σ E ts ∧ c E = some (o, E') ∧ boolOf E' o = some b ∧ ∀ Z' H', Cf G Z' H' σ E' ts → Q b H'
section
variable {G : Gx} {Z : Adr → Prop} {H : Hp} {σ : L2.St} {E E' : Env} {ts : Ts}
theorem Cf.slot {i : Nat} {d : D} (c : Cf G Z H σ E ts) (h : get E i = some d) : ∃ v, σ[i]? = some (some v) := by
  obtain ⟨O, h1, h2, h3⟩ := c.own
  have hE := get_some h
  have lt : i < σ.length := by rw [← c.len]; exact (List.getElem?_eq_some_iff.mp hE).1
  have hσ : σ[i]? = some σ[i] := by simp [lt]
  have hz := zip_at hE hσ
  have hc : (cells E σ ts)[i]? = some (some d, σ[i]) := by
    rw [List.getElem?_append_left (List.getElem?_eq_some_iff.mp hz).1]; exact hz
  obtain ⟨O1, O2, O3, _, r, _⟩ := Cells.at h1 hc
  cases e : σ[i] with
  | none => rw [e] at r; exact r.elim
  | some v => rw [hσ, e]; exact ⟨v, rfl⟩
/-- an operand that is a slot -/
theorem Cf.sl {i : Nat} {v : V} (c : Cf G Z H σ E ts) (h : σ[i]? = some (some v)) : Cf G Z H σ E ((.sl i, v) :: ts) := by
  obtain ⟨O, h1, h2, h3⟩ := c.own
  have hc : Cells G.K Z H (tc (.sl i, v) :: cells E σ ts) O := ⟨[], O, rfl, rfl, h1⟩
  obtain ⟨O', q, r⟩ := Cells.sub (a := cells E σ ((.sl i, v) :: ts)) (.perm List.perm_middle) hc
  refine ⟨c.len, ⟨O', r, q.nodup h2, fun p hp => h3 p (q.mem hp)⟩, fun j w hw => ?_, c.kp, c.dom, c.zs, c.z0, c.pins⟩
  rcases List.mem_cons.mp hw with e | e
  · cases e; exact h
  · exact c.sls j w e
theorem Cf.atom {d : D} {v : V} (c : Cf G Z H σ E ts) (h : Rep G.K Z H d v []) : Cf G Z H σ E ((.v d, v) :: ts) := c.hold h
/-- the first operand's value, a bool -/
theorem Cf.bool {o : Opd} {v : V} {b : Bool} (c : Cf G Z H σ E ((o, v) :: ts)) (h : boolOf E o = some b) : v = .bl b := by
  unfold boolOf at h
  cases e : fetch1 E o with
  | none => rw [e] at h; cases h
  | some d =>
    rw [e] at h
    obtain ⟨Z', _, r, _⟩ := Cf.frz1 c e
    cases d <;> first | (have e' := Option.some.inj h; subst e'; exact r.1) | cases h
end
section
variable [PinM] {X : Cx} {e a b : Expr} {pos : Pos} {ca cb cc : Sem1}
theorem r_var {x : Str} {i : Nat} (h : PE X e (tVar i)) : PE X e (tE X.K fun E => (get E i).map fun _ => (.sl i, E)) := h.imp fun σ H Q q => by
  obtain ⟨G, Z, E, ts, o, E', hK, c, he, hq⟩ := q
  obtain ⟨d, eg, he⟩ := Option.map_eq_some_iff.mp he
  cases he
  obtain ⟨v, hv⟩ := c.slot eg
  exact ⟨v, hv, hq Z H v (c.sl hv)⟩
theorem r_con {d : D} {v : V} (h : PE X e (tC v)) (hr : ∀ K Z H, Rep K Z H d v []) : PE X e (tE X.K fun E => some (.v d, E)) := h.imp fun σ H Q q => by
  obtain ⟨G, Z, E, ts, o, E', hK, c, he, hq⟩ := q
  cases he
  exact hq Z H v (c.hold (hr _ _ _))
theorem r_op2 {f : D → D → Option D} (h : ∀ ta tb, PE X a ta → PE X b tb → PE X e (tOp (rd2 f X.K) ta tb)) (ha : PE X a (tE X.K ca)) (hb : PE X b (tE X.K cb)) :
    PE X e (tE X.K fun E => (ca E).bind fun x => (cb x.2).bind fun y => appl (ap2 f) [x.1, y.1] y.2) := (h _ _ ha hb).imp fun σ H Q q => by
  obtain ⟨G, Z, E, ts, o, E', hK, c, he, hq⟩ := q
  obtain ⟨x, e1, he⟩ := Option.bind_eq_some_iff.mp he
  obtain ⟨y, e2, he⟩ := Option.bind_eq_some_iff.mp he
  refine ⟨G, Z, E, ts, x.1, x.2, hK, c, e1, fun Z1 H1 v1 c1 => ⟨G, Z1, x.2, _, y.1, y.2, hK, c1, e2, fun Z2 H2 v2 c2 => ?_⟩⟩
  rw [← hK.1]
  exact rd2_of (appl_ok (os := [x.1, y.1]) (vs := [v1, v2]) rfl (c2.perm (List.Perm.swap _ _ _)) he hq)
theorem r_op1 {f : D → Option D} (h : ∀ ta, PE X a ta → PE X e (tUn (rd1 f X.K) ta)) (ha : PE X a (tE X.K ca)) :
    PE X e (tE X.K fun E => (ca E).bind fun x => appl (ap1 f) [x.1] x.2) := (h _ ha).imp fun σ H Q q => by
  obtain ⟨G, Z, E, ts, o, E', hK, c, he, hq⟩ := q
  obtain ⟨x, e1, he⟩ := Option.bind_eq_some_iff.mp he
  refine ⟨G, Z, E, ts, x.1, x.2, hK, c, e1, fun Z1 H1 v1 c1 => ?_⟩
  rw [← hK.1]
  exact rd1_of (appl_ok (os := [x.1]) (vs := [v1]) rfl c1 he hq)
theorem r_test {c : Sem1} (h : ∀ t, PE X e t → PT X e (tB t)) (he : PE X e (tE X.K c)) : PT X e (tB' X.K c) := (h _ he).imp fun σ H Q q => by
  obtain ⟨G, Z, E, ts, o, E', b, hK, c, he, hb, hq⟩ := q
  exact ⟨G, Z, E, ts, o, E', hK, c, he, fun Z1 H1 v c1 => ⟨b, c1.bool hb, hq Z1 H1 c1.tail⟩⟩

def bv (b : Bool) (E : Env) : Opd × Env := (.v (.bl b), E)
omit [PinM] in
theorem Cf.bl {G : Gx} {Z : Adr → Prop} {H : Hp} {σ : L2.St} {E : Env} {ts : Ts} (c : Cf G Z H σ E ts) (b : Bool) : Cf G Z H σ E ((.v (.bl b), .bl b) :: ts) := c.hold ⟨rfl, rfl⟩
theorem r_not (h : ∀ t, PE X a t → PE X e (tNotV t)) (ha : PE X a (tE X.K ca)) : PE X e (tE X.K fun E => (ca E).bind fun x => (boolOf x.2 x.1).map fun b => (.v (.bl (!b)), x.2)) := (h _ ha).imp fun σ H Q q => by
  obtain ⟨G, Z, E, ts, o, E', hK, c, he, hq⟩ := q
  obtain ⟨x, e1, he⟩ := Option.bind_eq_some_iff.mp he
  obtain ⟨b, e2, he⟩ := Option.map_eq_some_iff.mp he
  cases he
  exact ⟨G, Z, E, ts, x.1, x.2, hK, c, e1, fun Z1 H1 v c1 => ⟨b, c1.bool e2, hq _ _ _ (c1.tail.bl _)⟩⟩
def sAnd (ca cb : Sem1) : Sem1 := fun E => (ca E).bind fun x => (boolOf x.2 x.1).bind fun t => if t = true then (cb x.2).bind fun y => (boolOf y.2 y.1).map fun u => (.v (.bl u), y.2) else some (.v (.bl false), x.2)
def sOr (ca cb : Sem1) : Sem1 := fun E => (ca E).bind fun x => (boolOf x.2 x.1).bind fun t => if t = true then some (.v (.bl true), x.2) else (cb x.2).bind fun y => (boolOf y.2 y.1).map fun u => (.v (.bl u), y.2)
/-- a value that is known to be a bool is made anew -/
def asB (c : Sem1) : Sem1 := fun E => (c E).bind fun y => (boolOf y.2 y.1).map fun u => (.v (.bl u), y.2)
theorem r_asB {c : Sem1} (h : PE X e (tE X.K c)) : PE X e (tE X.K (asB c)) := h.imp fun σ H Q q => by
  obtain ⟨G, Z, E, ts, o, E', hK, c, he, hq⟩ := q
  obtain ⟨x, e1, he⟩ := Option.bind_eq_some_iff.mp he
  obtain ⟨b, e2, he⟩ := Option.map_eq_some_iff.mp he
  cases he
  refine ⟨G, Z, E, ts, x.1, x.2, hK, c, e1, fun Z1 H1 v c1 => ?_⟩
  have := c1.bool e2
  subst this
  exact hq _ _ _ (c1.tail.bl _)
theorem r_and (h : ∀ t u, PE X a t → PE X b u → PE X e (tAndV t u)) (ha : PE X a (tE X.K ca)) (hb : PE X b (tE X.K (asB cb))) : PE X e (tE X.K (sAnd ca cb)) := (h _ _ ha hb).imp fun σ H Q q => by
  obtain ⟨G, Z, E, ts, o, E', hK, c, he, hq⟩ := q
  obtain ⟨x, e1, he⟩ := Option.bind_eq_some_iff.mp he
  obtain ⟨t, e2, he⟩ := Option.bind_eq_some_iff.mp he
  refine ⟨G, Z, E, ts, x.1, x.2, hK, c, e1, fun Z1 H1 v c1 => ⟨t, c1.bool e2, ?_⟩⟩
  cases t with
  | true => exact ⟨G, Z1, x.2, ts, o, E', hK, c1.tail, he, hq⟩
  | false => cases he; exact hq _ _ _ (c1.tail.bl _)
theorem r_or (h : ∀ t u, PE X a t → PE X b u → PE X e (tOrV t u)) (ha : PE X a (tE X.K ca)) (hb : PE X b (tE X.K (asB cb))) : PE X e (tE X.K (sOr ca cb)) := (h _ _ ha hb).imp fun σ H Q q => by
  obtain ⟨G, Z, E, ts, o, E', hK, c, he, hq⟩ := q
  obtain ⟨x, e1, he⟩ := Option.bind_eq_some_iff.mp he
  obtain ⟨t, e2, he⟩ := Option.bind_eq_some_iff.mp he
  refine ⟨G, Z, E, ts, x.1, x.2, hK, c, e1, fun Z1 H1 v c1 => ⟨t, c1.bool e2, ?_⟩⟩
  cases t with
  | false => exact ⟨G, Z1, x.2, ts, o, E', hK, c1.tail, he, hq⟩
  | true => cases he; exact hq _ _ _ (c1.tail.bl _)
theorem r_ife {tst : Expr} {ct : Sem1} (h : ∀ t u w, PT X tst t → PE X a u → PE X b w → PE X e (tIf t u w)) (ht : PT X tst (tB' X.K ct)) (ha : PE X a (tE X.K ca)) (hb : PE X b (tE X.K cb)) :
    PE X e (tE X.K fun E => (ct E).bind fun x => (boolOf x.2 x.1).bind fun t => if t = true then ca x.2 else cb x.2) := (h _ _ _ ht ha hb).imp fun σ H Q q => by
  obtain ⟨G, Z, E, ts, o, E', hK, c, he, hq⟩ := q
  obtain ⟨x, e1, he⟩ := Option.bind_eq_some_iff.mp he
  obtain ⟨t, e2, he⟩ := Option.bind_eq_some_iff.mp he
  refine ⟨G, Z, E, ts, x.1, x.2, t, hK, c, e1, e2, fun Z1 H1 c1 => ?_⟩
  cases t with
  | true => exact ⟨G, Z1, x.2, ts, o, E', hK, c1, he, hq⟩
  | false => exact ⟨G, Z1, x.2, ts, o, E', hK, c1, he, hq⟩
/-! ### arguments -/
theorem r_nil (h : PA X [] tNil) : PA X [] (tEs X.K fun E => some ([], E)) := h.imp fun σ H Q q => by
  obtain ⟨G, Z, E, ts, o, E', hK, c, he, hq⟩ := q
  cases he
  exact hq Z H [] rfl c
theorem r_cons {es : List Expr} {cs : Sems} (h : ∀ t u, PE X e t → PA X es u → PA X (e :: es) (tCons t u)) (ha : PE X e (tE X.K ca)) (hr : PA X es (tEs X.K cs)) :
    PA X (e :: es) (tEs X.K fun E => (ca E).bind fun x => (cs x.2).map fun y => (x.1 :: y.1, y.2)) := (h _ _ ha hr).imp fun σ H Q q => by
  obtain ⟨G, Z, E, ts, o, E', hK, c, he, hq⟩ := q
  obtain ⟨x, e1, he⟩ := Option.bind_eq_some_iff.mp he
  obtain ⟨y, e2, he⟩ := Option.map_eq_some_iff.mp he
  cases he
  refine ⟨G, Z, E, ts, x.1, x.2, hK, c, e1, fun Z1 H1 v1 c1 => ⟨G, Z1, x.2, _, y.1, y.2, hK, c1, e2, fun Z2 H2 vs hl c2 => ?_⟩⟩
  exact hq Z2 H2 (v1 :: vs) (by simp [hl]) (c2.perm (List.perm_middle.symm))
theorem r_blt {es : List Expr} {f : List D → Option D} {cs : Sems} (h : ∀ t, PA X es t → PE X e (tCB (rd f X.K) t)) (ha : PA X es (tEs X.K cs)) :
    PE X e (tE X.K fun E => (cs E).bind fun x => appl f x.1 x.2) := (h _ ha).imp fun σ H Q q => by
  obtain ⟨G, Z, E, ts, o, E', hK, c, he, hq⟩ := q
  obtain ⟨x, e1, he⟩ := Option.bind_eq_some_iff.mp he
  refine ⟨G, Z, E, ts, x.1, x.2, hK, c, e1, fun Z1 H1 vs hl c1 => ?_⟩
  rw [← hK.1]
  exact appl_ok hl c1 he hq
end
end Fr
end
section
set_option linter.all false
set_option autoImplicit true
set_option maxRecDepth 100000
/-! Displays, methods, places. -/
namespace Fr
open PySem L2 PyProof.Rows
section
variable {G : Gx} {Z : Adr → Prop} {H H' : Hp} {σ : L2.St} {E E' : Env} {ts : Ts}
theorem takes_ok {G : Gx} {H : Hp} {σ : L2.St} {E' : Env} : ∀ {os : List Opd} {vs : List V} {E : Env} {Z : Adr → Prop} {ts : Ts} {ds : List D}, os.length = vs.length → Cf G Z H σ E (os.zip vs ++ ts) → takes E os = some (ds, E') → ds.length = vs.length ∧ ∃ Z', Cf G Z' H σ E' ((ds.map Opd.v).zip vs ++ ts)
  | [], [], E, Z, ts, ds, _, c, h => by cases h; exact ⟨rfl, Z, c⟩
  | [], _ :: _, _, _, _, _, hl, _, _ => by simp at hl
  | _ :: _, [], _, _, _, _, hl, _, _ => by simp at hl
  | o :: os, v :: vs, E, Z, ts, ds, hl, c, h => by
    simp only [Fr.takes] at h
    obtain ⟨q, e1, h⟩ := Option.bind_eq_some_iff.mp h
    obtain ⟨z, e2, h⟩ := Option.map_eq_some_iff.mp h
    cases h
    obtain ⟨Z1, _, c1⟩ := Cf.take (ts := os.zip vs ++ ts) c (d := q.1) (E' := q.2) e1
    obtain ⟨l2, Z2, c2⟩ := takes_ok (ts := (.v q.1, v) :: ts) (by simpa using hl) (c1.perm (List.perm_middle)) e2
    exact ⟨by simp [l2], Z2, c2.perm (List.perm_middle.symm)⟩
theorem cells_rep : ∀ {ds : List D} {vs : List V} {O : List Adr} {K : PySem.W.Frag} {Z : Adr → Prop} {H : Hp}, ds.length = vs.length → Cells K Z H (((ds.map Opd.v).zip vs).map tc) O → RepL K Z H ds vs O
  | [], [], O, _, _, _, _, h => ⟨rfl, h⟩
  | [], _ :: _, _, _, _, _, e, _ => by simp at e
  | _ :: _, [], _, _, _, _, e, _ => by simp at e
  | d :: ds, v :: vs, O, _, _, _, e, h => by
    obtain ⟨O1, O2, rfl, h1, h2⟩ := h
    exact ⟨v, vs, O1, O2, rfl, rfl, h1, cells_rep (by simpa using e) h2⟩
/-- several values become one -/
theorem Cf.wrap {ds : List D} {vs : List V} {d : D} {v : V} {N : List Adr} (hl : ds.length = vs.length) (c : Cf G Z H σ E ((ds.map Opd.v).zip vs ++ ts)) (he : Same H H') (hN : N.Nodup) (hf : ∀ p ∈ N, H p = none)
    (hr : ∀ O, RepL G.K Z H' ds vs O → Rep G.K Z H' d v (N ++ O)) : Cf G Z H' σ E ((.v d, v) :: ts) := by
  obtain ⟨O, h1, h2, h3⟩ := c.own
  have hp : List.Perm (((ds.map Opd.v).zip vs).map tc ++ (cells E σ ts)) (cells E σ ((ds.map Opd.v).zip vs ++ ts)) := by
    unfold cells
    rw [List.map_append, ← List.append_assoc, ← List.append_assoc]
    exact (List.perm_append_comm).append_right _
  obtain ⟨P, q, r⟩ := Cells.sub (.perm hp) h1
  obtain ⟨O1, O2, rfl, r1, r2⟩ := Cells.split r
  have S : Stays Z H H' Z (fun _ => False) := Stays.ext (fun _ z => z) he
  have rl := (cells_rep hl r1).ext (fun _ z => z) he
  have nd := q.nodup h2
  have hP : ∀ p ∈ O1 ++ O2, ∃ o, H p = some o := fun p hp => by
    rcases Cells.own r p hp with ⟨_, e⟩ | ⟨_, e⟩ <;> exact ⟨_, e⟩
  have hc : Cells G.K Z H' ((some d, some v) :: cells E σ ts) ((N ++ O1) ++ O2) := ⟨N ++ O1, O2, rfl, hr O1 rl, Cells.keep S r2 fun _ _ w => w⟩
  obtain ⟨O', q', r'⟩ := Cells.sub (a := cells E σ ((.v d, v) :: ts)) (.perm (List.perm_middle)) hc
  refine ⟨c.len, ⟨O', r', q'.nodup ?_, fun p hp => ?_⟩, fun i w h => ?_, fun p o e hM => he _ _ (c.kp p o e hM), fun p z => let ⟨o, e⟩ := c.dom p z; ⟨o, he _ _ e⟩, c.zs, c.z0, c.pins⟩
  · rw [List.append_assoc]
    refine List.nodup_append.mpr ⟨hN, nd, fun a ha b hb e => ?_⟩
    subst e
    obtain ⟨o, e⟩ := hP a hb
    rw [hf a ha] at e; cases e
  · have hp' : p ∈ N ∨ p ∈ O1 ++ O2 := by
      have := q'.mem hp
      rw [List.append_assoc] at this
      exact List.mem_append.mp this
    rcases hp' with h | h
    · refine ⟨fun z => ?_, ?_⟩
      · obtain ⟨o, e⟩ := c.dom p z
        rw [hf p h] at e; cases e
      · by_cases hM : p ∈ G.M
        · exact .inl hM
        · right
          cases e : G.H0 p with
          | none => rfl
          | some o =>
            have z := c.kp p o e hM
            rw [hf p h] at z; cases z
    · exact h3 p (q.mem h)
  · rcases List.mem_cons.mp h with e | e
    · cases e
    · exact c.sls i w (List.mem_append_right _ e)
/-- a value goes into a slot -/
theorem Cf.put {i : Nat} {d : D} {v : V} (c : Cf G Z H σ E ((.v d, v) :: ts)) (hs : ∀ j w, (Opd.sl j, w) ∈ ts → j ≠ i) (hp : ∀ q ∈ G.pins, q.1 ≠ i) : Cf G Z H (σ.set i (some v)) (E.set i (some d)) ts := by
  refine c.sub (by simpa using c.len) ?_ (fun j w h => ?_) (fun q hq => ?_)
  · unfold cells
    rw [zip_set]
    exact Sub.set (E.zip σ) i (some d, some v) (ts.map tc)
  · rw [List.getElem?_set_ne (Ne.symm (hs j w h))]
    exact c.sls j w (List.mem_cons_of_mem _ h)
  · rw [List.getElem?_set_ne (Ne.symm (hp q hq))]
    exact c.pins q hq
theorem set_self {l : L2.St} {i : Nat} {v : V} (h : l[i]? = some (some v)) : l.set i (some v) = l := by
  apply List.ext_getElem?
  intro j
  by_cases hj : i = j
  · subst hj
    rw [List.getElem?_set_self (List.getElem?_eq_some_iff.mp h).1, h]
  · rw [List.getElem?_set_ne hj]
/-- .. back into its own slot -/
theorem Cf.back {i : Nat} {d : D} {v : V} (c : Cf G Z H σ E ((.v d, v) :: ts)) (hv : σ[i]? = some (some v)) : Cf G Z H σ (E.set i (some d)) ts := by
  refine c.sub (by simpa using c.len) ?_ (fun j w h => c.sls j w (List.mem_cons_of_mem _ h)) c.pins
  have e : (E.set i (some d)).zip σ = (E.zip σ).set i (some d, some v) := by
    rw [← zip_set, set_self hv]
  unfold cells
  rw [e]
  exact Sub.set (E.zip σ) i (some d, some v) (ts.map tc)
theorem set_sub {α : Type} : ∀ {l : List α} {i : Nat} {a b : α} (t : List α), l[i]? = some a → List.Perm (l.set i b ++ a :: t) (b :: (l ++ t))
  | [], _, _, _, _, e => by simp at e
  | x :: l, 0, a, b, t, e => by
    simp at e; subst e
    simp only [List.set_cons_zero, List.cons_append]
    exact List.Perm.cons _ List.perm_middle
  | x :: l, i + 1, a, b, t, e => by
    simp only [List.set_cons_succ, List.cons_append]
    exact (List.Perm.cons x (set_sub (l := l) (i := i) t (by simpa using e))).trans (List.Perm.swap _ _ _)
/-- a slot's value is taken out -/
theorem Cf.out {i : Nat} {d : D} {v : V} (c : Cf G Z H σ E ts) (h : get E i = some d) (hv : σ[i]? = some (some v)) : Cf G Z H σ (E.set i none) ((.v d, v) :: ts) := by
  have hE := get_some h
  have hz := zip_at hE hv
  have e : (E.set i none).zip σ = (E.zip σ).set i (none, some v) := by
    rw [← zip_set, set_self hv]
  obtain ⟨O, h1, h2, h3⟩ := c.own
  have h1' : Cells G.K Z H ((none, some v) :: cells E σ ts) O := ⟨[], O, rfl, rfl, h1⟩
  have hp : List.Perm (cells (E.set i none) σ ((.v d, v) :: ts)) ((none, some v) :: cells E σ ts) := by
    unfold cells
    rw [e]
    exact set_sub (ts.map tc) hz
  obtain ⟨O', q, r⟩ := Cells.sub (.perm hp) h1'
  refine ⟨by simpa using c.len, ⟨O', r, q.nodup h2, fun p hp => h3 p (q.mem hp)⟩, fun j w hw => ?_, c.kp, c.dom, c.zs, c.z0, c.pins⟩
  rcases List.mem_cons.mp hw with e | e
  · cases e
  · exact c.sls j w e
theorem cells_of : ∀ {ds : List D} {vs : List V} {O : List Adr} {K : PySem.W.Frag} {Z : Adr → Prop} {H : Hp}, RepL K Z H ds vs O → Cells K Z H (((ds.map Opd.v).zip vs).map tc) O
  | [], vs, O, _, _, _, h => by rw [h.1, h.2]; rfl
  | d :: ds, vs, O, _, _, _, h => by
    obtain ⟨v, ws, O1, O2, rfl, rfl, h1, h2⟩ := h
    exact ⟨O1, O2, rfl, h1, cells_of h2⟩
/-- values in hand become others: what is changed was ours, what is new is new -/
theorem Cf.step {ds ds' : List D} {vs vs' : List V} {W : List Adr} {Z' : Adr → Prop} (hl : ds.length = vs.length) (c : Cf G Z H σ E ((ds.map Opd.v).zip vs ++ ts)) (hk : ∀ p o, H p = some o → p ∉ W → H' p = some o)
    (hr : ∀ O, RepL G.K Z H ds vs O → O.Nodup → (∀ p ∈ O, ¬ Z p) → (∀ p ∈ W, p ∈ O) ∧ (∀ p, Z p → Z' p) ∧ (∀ p, Z' p → (Z p ∨ p ∈ O ∨ H p = none) ∧ ∃ o, H' p = some o) ∧
      ∃ O', RepL G.K Z' H' ds' vs' O' ∧ O'.Nodup ∧ ∀ p ∈ O', ¬ Z' p ∧ (p ∈ O ∨ H p = none)) : Cf G Z' H' σ E ((ds'.map Opd.v).zip vs' ++ ts) := by
  obtain ⟨O, h1, h2, h3⟩ := c.own
  have hp : ∀ ts' : Ts, List.Perm (ts'.map tc ++ (cells E σ ts)) (cells E σ (ts' ++ ts)) := fun ts' => by
    unfold cells
    rw [List.map_append, ← List.append_assoc, ← List.append_assoc]
    exact (List.perm_append_comm).append_right _
  obtain ⟨P, q, r⟩ := Cells.sub (.perm (hp _)) h1
  obtain ⟨O1, O2, rfl, r1, r2⟩ := Cells.split r
  have nd := List.nodup_append.mp (q.nodup h2)
  have z1 : ∀ p ∈ O1, ¬ Z p ∧ (p ∈ G.M ∨ G.H0 p = none) := fun p hp => h3 p (q.mem (List.mem_append_left _ hp))
  have z2 : ∀ p ∈ O2, ¬ Z p ∧ (p ∈ G.M ∨ G.H0 p = none) := fun p hp => h3 p (q.mem (List.mem_append_right _ hp))
  obtain ⟨w1, zz, zd, O', w2, w3, w4⟩ := hr O1 (cells_rep hl r1) nd.1 fun p hp => (z1 p hp).1
  have S : Stays Z H H' Z' (fun p => p ∈ W) := ⟨zz, hk, fun p w => ⟨Cells.own r1 p (w1 p w), (z1 p (w1 p w)).1⟩⟩
  have there : ∀ p ∈ O2, ∃ o, H p = some o := fun p hp => by
    rcases Cells.own r2 p hp with ⟨_, e⟩ | ⟨_, e⟩ <;> exact ⟨_, e⟩
  have hc : Cells G.K Z' H' (((ds'.map Opd.v).zip vs').map tc ++ cells E σ ts) (O' ++ O2) := Cells.app (cells_of w2) (Cells.keep S r2 fun p hp w => nd.2.2 p (w1 p w) p hp rfl)
  obtain ⟨O'', q', r'⟩ := Cells.sub (.perm (hp _).symm) hc
  have fresh : ∀ p, H p = none → p ∈ G.M ∨ G.H0 p = none := fun p e => by
    by_cases hM : p ∈ G.M
    · exact .inl hM
    · right
      cases e2 : G.H0 p with
      | none => rfl
      | some o =>
        have z := c.kp p o e2 hM
        rw [e] at z; cases z
  have ours : ∀ p, (p ∈ O1 ∨ H p = none) → p ∈ G.M ∨ G.H0 p = none := fun p h => h.elim (fun h => (z1 p h).2) (fresh p)
  refine ⟨c.len, ⟨O'', r', q'.nodup (List.nodup_append.mpr ⟨w3, nd.2.1, fun a ha b hb e => ?_⟩), fun p hp => ?_⟩, fun i w h => ?_, fun p o e hM => ?_, fun p z => (zd p z).2, fun p z => ?_, fun p z => zz p (c.z0 p z), c.pins⟩
  · subst e
    rcases (w4 a ha).2 with h | h
    · exact nd.2.2 a h a hb rfl
    · obtain ⟨o, e⟩ := there a hb
      rw [h] at e; cases e
  · rcases List.mem_append.mp (q'.mem hp) with h | h
    · exact ⟨(w4 p h).1, ours p (w4 p h).2⟩
    · refine ⟨fun z => ?_, (z2 p h).2⟩
      rcases (zd p z).1 with z | z | z
      · exact (z2 p h).1 z
      · exact nd.2.2 p z p h rfl
      · obtain ⟨o, e⟩ := there p h
        rw [z] at e; cases e
  · rcases List.mem_append.mp h with h | h
    · have : ∃ d, Opd.sl i = Opd.v d := by
        have := (List.of_mem_zip h).1
        obtain ⟨d, _, e⟩ := List.mem_map.mp this
        exact ⟨d, e.symm⟩
      obtain ⟨d, e⟩ := this
      cases e
    · exact c.sls i w (List.mem_append_right _ h)
  · refine hk p o (c.kp p o e hM) fun w => ?_
    rcases (z1 p (w1 p w)).2 with m | m
    · exact hM m
    · rw [m] at e; cases e
  · rcases (zd p z).1 with z | z
    · exact c.zs p z
    · exact .inr (ours p z)
end
end Fr
end
section
set_option linter.all false
set_option autoImplicit true
set_option maxRecDepth 100000
/-! Displays, methods of lists. -/
namespace Fr
open PySem L2 PyProof.Rows
section
variable [PinM] {X : Cx} {e a b : Expr} {es : List Expr} {pos : Pos} {ca cb : Sem1} {cs : Sems}
theorem r_tup (h : ∀ t, PA X es t → PE X e (tTup t)) (hn : ∀ E os E', cs E = some (os, E') → os.length ≤ sizeLine) (ha : PA X es (tEs X.K cs)) :
    PE X e (tE X.K fun E => (cs E).bind fun x => (takes x.2 x.1).map fun z => (.v (.tup z.1), z.2)) := (h _ ha).imp fun σ H Q q => by
  obtain ⟨G, Z, E, ts, o, E', hK, c, he, hq⟩ := q
  obtain ⟨x, e1, he⟩ := Option.bind_eq_some_iff.mp he
  obtain ⟨z, e2, he⟩ := Option.map_eq_some_iff.mp he
  cases he
  refine ⟨G, Z, E, ts, x.1, x.2, hK, c, e1, fun Z1 H1 vs hl c1 => ?_⟩
  obtain ⟨l2, Z2, c2⟩ := takes_ok hl c1 e2
  refine ⟨by rw [← hl]; exact hn _ _ _ e1, fun p hp => ?_⟩
  refine hq Z2 _ _ (c2.wrap (N := []) l2 (same_upd hp) List.nodup_nil (by simp) fun O r => ?_)
  exact ⟨p, vs, rfl, .of upd_same, r⟩
theorem r_lst (h : ∀ t, PA X es t → PE X e (tLst t)) (hn : ∀ E os E', cs E = some (os, E') → os.length ≤ sizeLine) (ha : PA X es (tEs X.K cs)) :
    PE X e (tE X.K fun E => (cs E).bind fun x => (takes x.2 x.1).map fun z => (.v (.lst true z.1), z.2)) := (h _ ha).imp fun σ H Q q => by
  obtain ⟨G, Z, E, ts, o, E', hK, c, he, hq⟩ := q
  obtain ⟨x, e1, he⟩ := Option.bind_eq_some_iff.mp he
  obtain ⟨z, e2, he⟩ := Option.map_eq_some_iff.mp he
  cases he
  refine ⟨G, Z, E, ts, x.1, x.2, hK, c, e1, fun Z1 H1 vs hl c1 => ?_⟩
  obtain ⟨l2, Z2, c2⟩ := takes_ok hl c1 e2
  refine ⟨by rw [← hl]; exact hn _ _ _ e1, fun p hp => ?_⟩
  refine hq Z2 _ _ (c2.wrap (N := [p]) l2 (same_upd hp) (by simp) (by simpa using hp) fun O r => ?_)
  exact ⟨p, vs, O, rfl, upd_same, rfl, r⟩
theorem r_dic0 (h : PE X e tDNewK) : PE X e (tE X.K fun E => some (.v (.dic true [] []), E)) := h.imp fun σ H Q q => by
  obtain ⟨G, Z, E, ts, o, E', hK, c, he, hq⟩ := q
  cases he
  intro p hp
  exact hq Z _ _ (Cf.more c (same_upd hp) (O := [p]) ⟨p, [], [], rfl, upd_same, rfl, rfl, ⟨rfl, rfl⟩⟩ (by simpa using hp) (by simp))
theorem r_dic1 {k : Key} {v : V} {d : D} (h : PE X e (tDisp [(tC (kV k), tC v)])) (hr : ∀ K Z H, Rep K Z H d v []) : PE X e (tE X.K fun E => some (.v (.dic true [k] [d]), E)) := h.imp fun σ H Q q => by
  obtain ⟨G, Z, E, ts, o, E', hK, c, he, hq⟩ := q
  cases he
  intro p hp
  refine ⟨upd_same, [(k, v)], rfl, by show 1 ≤ 15; decide, ?_⟩
  rw [upd_upd]
  have e : mergeK [] [(k, v)] = [(k, v)] := rfl
  rw [e]
  exact hq Z _ _ (Cf.more c (same_upd hp) (O := [p]) ⟨p, [v], [], rfl, upd_same, rfl, rfl, v, [], [], [], rfl, rfl, hr _ _ _, rfl, rfl⟩ (by simpa using hp) (by simp))
omit [PinM] in
theorem rep_lstT {K : PySem.W.Frag} {Z : Adr → Prop} {H : Hp} {ds : List D} {v : V} {O : List Adr} (h : Rep K Z H (.lst true ds) v O) : ∃ p vs O', v = .ref p ∧ H p = some (.lst vs) ∧ O = p :: O' ∧ RepL K Z H ds vs O' := h
omit [PinM] in
/-- the list in a slot is a list -/
theorem Cf.isList {G : Gx} {Z : Adr → Prop} {H : Hp} {σ : L2.St} {E : Env} {ts : Ts} {i : Nat} {o : Bool} {ds : List D} (c : Cf G Z H σ E ts) (h : get E i = some (.lst o ds)) :
    ∃ p vs, σ[i]? = some (some (.ref p)) ∧ Rd H p (.lst vs) ∧ ds.length = vs.length := by
  obtain ⟨v, hv⟩ := c.slot h
  obtain ⟨Z', _, r, _⟩ := Cf.frz1 (d := fz (.lst o ds)) (c.sl hv) (by rw [fetch1, h]; rfl)
  obtain ⟨p, vs, rfl, hp, hl⟩ := rep_lst (b := false) (ds := fzs ds) r
  refine ⟨p, vs, hv, hp, ?_⟩
  rw [← hl.len, fzs_map, List.length_map]
theorem r_app {i : Nat} (h : ∀ t, PE X a t → PE X e (tBM X.K "list" rAppend (tVar i) (tCons t tNil))) (ha : PE X a (tE X.K ca)) :
    PE X e (tE X.K fun E => (get E i).bind fun d0 => match d0 with
      | .lst _ _ => (ca E).bind fun x => (take x.2 x.1).bind fun q => (get q.2 i).bind fun d => match d with
        | .lst true xs => when' (decide (xs.length < sizeLine)) (.v .non, q.2.set i (some (.lst true (xs ++ [q.1]))))
        | _ => none
      | _ => none) := (h _ ha).imp fun σ H Q q => by
  obtain ⟨G, Z, E, ts, o, E', hK, c, he, hq⟩ := q
  obtain ⟨d0, e0, he⟩ := Option.bind_eq_some_iff.mp he
  cases d0 <;> try contradiction
  rename_i b0 xs0
  obtain ⟨x, e1, he⟩ := Option.bind_eq_some_iff.mp he
  obtain ⟨z, e2, he⟩ := Option.bind_eq_some_iff.mp he
  obtain ⟨d, e3, he⟩ := Option.bind_eq_some_iff.mp he
  obtain ⟨p, vs, hv, hp, _⟩ := c.isList e0
  refine ⟨.ref p, hv, .inl ⟨rfl, vs, .inl hp⟩, G, Z, E, ts, x.1, x.2, hK, c, e1, fun Z1 H1 w c1 => ?_⟩
  obtain ⟨Z2, _, c2⟩ := Cf.take c1 (d := z.1) (E' := z.2) e2
  cases d with
  | lst b xs =>
    cases b with
    | false => cases he
    | true =>
      obtain ⟨cl, he⟩ := when_some he
      cases he
      have c3 := c2.out e3 hv
      obtain ⟨p', vs', hv', hp', hl'⟩ := c2.isList e3
      rw [hv] at hv'; cases hv'
      have cl' : xs.length < sizeLine := of_decide_eq_true cl
      -- the list is ours
      have key : ∃ ws, H1 p = some (.lst ws) := by
        obtain ⟨O, h1, _, _⟩ := c3.own
        obtain ⟨P, _, O1, O2, _, r1, _⟩ := Cells.sub (a := (some (.lst true xs), some (.ref p)) :: cells (z.2.set i none) σ ((.v z.1, w) :: ts)) (.perm (List.perm_middle.symm)) h1
        obtain ⟨p2, ws, _, e4, hp2, _, _⟩ := rep_lstT r1
        cases e4
        exact ⟨ws, hp2⟩
      obtain ⟨ws, hws⟩ := key
      have lw : ws.length = xs.length := by
        rcases hp' with q | ⟨o, q⟩
        · rw [hws] at q; cases q; exact hl'.symm
        · rw [hws] at q; cases q
      refine ⟨p, ws, w, rfl, rfl, hws, by rw [lw]; exact cl', ?_⟩
      have c4 : Cf G Z2 (upd H1 p (.lst (ws ++ [w]))) σ (z.2.set i none) ((([D.lst true (xs ++ [z.1])] : List D).map Opd.v).zip [V.ref p] ++ ts) := by
        refine Cf.step (ds := [.lst true xs, z.1]) (vs := [.ref p, w]) (W := [p]) rfl c3 (fun q o e hq' => by rw [upd_ne (by simpa using hq')]; exact e) fun O r nd hz => ?_
        obtain ⟨_, _, O1, O2, e5, rfl, r1, r2⟩ := r
        cases e5
        obtain ⟨_, _, O3, O4, e6, rfl, r3, r4⟩ := r2
        cases e6
        have : O4 = [] := r4.2
        subst this
        obtain ⟨p2, ws2, O5, e7, hp2, rfl, r5⟩ := rep_lstT r1
        cases e7
        rw [hws] at hp2; cases hp2
        have S : Stays Z2 H1 (upd H1 p (.lst (ws ++ [w]))) Z2 (fun q => q = p) := ⟨fun _ z => z, fun q o e n => by rw [upd_ne n]; exact e, fun q e => by subst e; exact ⟨.inl ⟨_, hws⟩, hz _ (by simp)⟩⟩
        have nd' := List.nodup_append.mp nd
        have np := List.nodup_cons.mp nd'.1
        refine ⟨by simp, fun _ z => z, fun q z => ⟨.inl z, ?_⟩, p :: (O5 ++ O3), ⟨.ref p, [], p :: (O5 ++ O3), [], rfl, by simp, ⟨p, ws ++ [w], O5 ++ O3, rfl, upd_same, rfl, ?_⟩, rfl, rfl⟩, ?_, fun q hq' => ⟨hz q ?_, .inl ?_⟩⟩
        · obtain ⟨o, e⟩ := c3.dom q z
          by_cases hqp : q = p
          · rw [hqp]; exact ⟨_, upd_same⟩
          · exact ⟨o, by rw [upd_ne hqp]; exact e⟩
        · refine RepL.app (RepL.keep S xs r5 fun q hq' e => np.1 (e ▸ hq')) ⟨w, [], O3, [], rfl, by simp, Rep.keep S z.1 r3 fun q hq' e => nd'.2.2 p (by simp) q (by simp [hq']) e.symm, rfl, rfl⟩
        · simpa using nd
        · simpa using hq'
        · simpa using hq'
      have c5 := Cf.back (d := .lst true (xs ++ [z.1])) c4 hv
      rw [List.set_set] at c5
      exact hq Z2 _ _ (c5.hold ⟨rfl, rfl⟩)
  | _ => cases he
omit [PinM] in
theorem RepL.at_ {K : PySem.W.Frag} {Z : Adr → Prop} {H : Hp} : ∀ {ds : List D} {vs : List V} {O : List Adr} {j : Nat} {d : D}, RepL K Z H ds vs O → ds[j]? = some d → ∃ v O1 O2 O3, vs[j]? = some v ∧ O = O1 ++ (O2 ++ O3) ∧ Rep K Z H d v O2 ∧
    ∀ {Z' : Adr → Prop} {H' : Hp} {W : Adr → Prop} {d' : D} {v' : V} {P : List Adr}, Stays Z H H' Z' W → (∀ p ∈ O1 ++ O3, ¬ W p) → Rep K Z' H' d' v' P → RepL K Z' H' (ds.set j d') (vs.set j v') (O1 ++ (P ++ O3))
  | [], _, _, _, _, _, e => by simp at e
  | d :: r, vs, O, 0, d0, h, e => by
    obtain ⟨v, ws, O1, O2, rfl, rfl, h1, h2⟩ := h
    simp at e; subst e
    refine ⟨v, [], O1, O2, rfl, rfl, h1, fun {Z' H' W d' v' P} S n hc => ⟨v', ws, P, O2, rfl, rfl, hc, RepL.keep S r h2 fun p hp => n p (by simpa using hp)⟩⟩
  | d :: r, vs, O, j + 1, d0, h, e => by
    obtain ⟨v, ws, O1, O2, rfl, rfl, h1, h2⟩ := h
    obtain ⟨v0, P1, P2, P3, e1, rfl, h3, h4⟩ := RepL.at_ (j := j) h2 (by simpa using e)
    refine ⟨v0, O1 ++ P1, P2, P3, by simpa using e1, by simp, h3, fun {Z' H' W d' v' P} S n hc => ?_⟩
    refine ⟨v, ws.set j v', O1, P1 ++ (P ++ P3), rfl, by simp, Rep.keep S d h1 fun p hp => n p (by simp [hp]), h4 S (fun p hp => n p ?_) hc⟩
    rcases List.mem_append.mp hp with q | q <;> simp [q]
omit [PinM] in
theorem getLast_at {α : Type} {l : List α} {x : α} (h : l.getLast? = some x) : l[l.length - 1]? = some x := by rw [← List.getLast?_eq_getElem?]; exact h
omit [PinM] in
theorem RepL.last {K : PySem.W.Frag} {Z : Adr → Prop} {H : Hp} {ds : List D} {vs : List V} {O : List Adr} {d : D} (h : RepL K Z H ds vs O) (e : ds.getLast? = some d) : ∃ v O1 O2, vs[vs.length - 1]? = some v ∧ O = O1 ++ O2 ∧ RepL K Z H ds.dropLast vs.dropLast O1 ∧ Rep K Z H d v O2 := by
  have e1 : ds = ds.dropLast ++ [d] := by
    obtain ⟨hne, e2⟩ := List.getLast?_eq_some_iff.mp e |>.imp fun _ h => h
    subst e2
    simp
  rw [e1] at h
  obtain ⟨v1, v2, O1, O2, rfl, rfl, h1, h2⟩ := RepL.split h
  obtain ⟨v, ws, O3, O4, rfl, rfl, h3, h4⟩ := h2
  have e4 : ws = [] := h4.1
  have e5 : O4 = [] := h4.2
  subst e4 e5
  refine ⟨v, O1, O3, by simp, by simp, ?_, h3⟩
  rw [List.dropLast_concat]
  exact h1
omit [PinM] in
theorem stay1 {Z : Adr → Prop} {H : Hp} {p : Adr} {xs ys : List V} (h : H p = some (.lst xs)) (hz : ¬ Z p) : Stays Z H (upd H p (.lst ys)) Z (fun q => q = p) :=
  ⟨fun _ z => z, fun q o e n => by rw [upd_ne n]; exact e, fun q e => by subst e; exact ⟨.inl ⟨_, h⟩, hz⟩⟩
omit [PinM] in
theorem dom1 {Z : Adr → Prop} {H : Hp} {p q : Adr} {o : HO} (h : ∃ o, H q = some o) : ∃ o', upd H p o q = some o' := by
  by_cases e : q = p
  · rw [e]; exact ⟨_, upd_same⟩
  · obtain ⟨o', h⟩ := h
    exact ⟨o', by rw [upd_ne e]; exact h⟩
theorem r_popL {i : Nat} (h : PE X e (tBM0 X.K "list" rPop (tVar i))) :
    PE X e (tE X.K fun E => (get E i).bind fun d => match d with
      | .lst true xs => xs.getLast?.map fun x => (.v x, E.set i (some (.lst true xs.dropLast)))
      | _ => none) := h.imp fun σ H Q q => by
  obtain ⟨G, Z, E, ts, o, E', hK, c, he, hq⟩ := q
  obtain ⟨d0, e0, he⟩ := Option.bind_eq_some_iff.mp he
  cases d0 with
  | lst b xs =>
    cases b with
    | false => cases he
    | true =>
      obtain ⟨x, e1, he⟩ := Option.map_eq_some_iff.mp he
      cases he
      obtain ⟨v, hv⟩ := c.slot e0
      have c3 := c.out e0 hv
      obtain ⟨O0, q1, q2, q3⟩ := c3.own
      obtain ⟨P, qs, O1, O2, rfl, r1, _⟩ := Cells.sub (a := (some (.lst true xs), some v) :: cells (E.set i none) σ ts) (.perm (List.perm_middle.symm)) q1
      obtain ⟨p, ws, O', rfl, hp, rfl, rl⟩ := rep_lstT r1
      obtain ⟨w, _, _, ew, _, _, _⟩ := rl.last e1
      refine ⟨.ref p, hv, .inl ⟨rfl, ws, .inl (.inl hp)⟩, p, ws, w, rfl, rfl, hp, ew, ?_⟩
      have c4 : Cf G Z (upd H p (.lst ws.dropLast)) σ (E.set i none) ((([D.lst true xs.dropLast, x] : List D).map Opd.v).zip [V.ref p, w] ++ ts) := by
        refine Cf.step (ds := [.lst true xs]) (vs := [.ref p]) (W := [p]) rfl c3 (fun q o e hq' => by rw [upd_ne (by simpa using hq')]; exact e) fun O r nd hz => ?_
        obtain ⟨_, _, O1, O2, e5, rfl, r1, r2⟩ := r
        cases e5
        have : O2 = [] := r2.2
        subst this
        obtain ⟨p2, ws2, O5, e7, hp2, rfl, r5⟩ := rep_lstT r1
        cases e7
        rw [hp] at hp2; cases hp2
        obtain ⟨w', P1, P2, ew', rfl, r6, r7⟩ := r5.last e1
        rw [ew] at ew'; cases ew'
        have S := stay1 (ys := ws.dropLast) hp (hz p (by simp))
        have nd' : (p :: (P1 ++ P2)).Nodup := by simpa using nd
        have np := List.nodup_cons.mp nd'
        refine ⟨by simp, fun _ z => z, fun q z => ⟨.inl z, dom1 (Z := Z) (c3.dom q z)⟩, p :: (P1 ++ P2), ⟨.ref p, [w], p :: P1, P2, rfl, by simp, ⟨p, _, P1, rfl, upd_same, rfl, RepL.keep S _ r6 fun q hq' e => np.1 (by subst e; simp [hq'])⟩, w, [], P2, [], rfl, by simp, Rep.keep S x r7 fun q hq' e => np.1 (by subst e; simp [hq']), rfl, rfl⟩, nd', fun q hq' => ⟨hz q (by simpa using hq'), .inl (by simpa using hq')⟩⟩
      have c5 := (Cf.back (d := .lst true xs.dropLast) (ts := ((.v x, w) :: ts)) c4 hv)
      rw [List.set_set] at c5
      exact hq Z _ _ c5
  | _ => cases he
theorem r_popA {i j : Nat} (h : PE X e (tBM0 X.K "list" rPop (tOp (rIxL X.K) (tVar i) (tC (.int j))))) :
    PE X e (tE X.K fun E => (get E i).bind fun d => match d with
      | .lst true xs => (xs[j]?).bind fun d2 => match d2 with
        | .lst true ys => ys.getLast?.map fun y => (.v y, E.set i (some (.lst true (xs.set j (.lst true ys.dropLast)))))
        | _ => none
      | _ => none) := h.imp fun σ H Q q => by
  obtain ⟨G, Z, E, ts, o, E', hK, c, he, hq⟩ := q
  obtain ⟨d0, e0, he⟩ := Option.bind_eq_some_iff.mp he
  cases d0 with
  | lst b xs =>
    cases b with
    | false => cases he
    | true =>
      obtain ⟨d2, e2, he⟩ := Option.bind_eq_some_iff.mp he
      cases d2 with
      | lst b2 ys =>
        cases b2 with
        | false => cases he
        | true =>
          obtain ⟨x, e1, he⟩ := Option.map_eq_some_iff.mp he
          cases he
          obtain ⟨v, hv⟩ := c.slot e0
          have c3 := c.out e0 hv
          obtain ⟨O0, q1, q2, q3⟩ := c3.own
          obtain ⟨P, qs, O1, O2, rfl, r1, _⟩ := Cells.sub (a := (some (.lst true xs), some v) :: cells (E.set i none) σ ts) (.perm (List.perm_middle.symm)) q1
          obtain ⟨p, ws, O', rfl, hp, rfl, rl⟩ := rep_lstT r1
          obtain ⟨u, A1, A2, A3, eu, rfl, ru, _⟩ := rl.at_ e2
          obtain ⟨p2, us, A4, rfl, hp2, rfl, rl2⟩ := rep_lstT ru
          obtain ⟨w, _, _, ew, _, _, _⟩ := rl2.last e1
          refine ⟨.ref p, hv, p, ws, j, .ref p2, rfl, rfl, .inl (.inl hp), atI_nat eu, .inl ⟨rfl, us, .inl (.inl hp2)⟩, p2, us, w, rfl, rfl, hp2, ew, ?_⟩
          have c4 : Cf G Z (upd H p2 (.lst us.dropLast)) σ (E.set i none) ((([D.lst true (xs.set j (.lst true ys.dropLast)), x] : List D).map Opd.v).zip [V.ref p, w] ++ ts) := by
            refine Cf.step (ds := [.lst true xs]) (vs := [.ref p]) (W := [p2]) rfl c3 (fun q o e hq' => by rw [upd_ne (by simpa using hq')]; exact e) fun O r nd hz => ?_
            obtain ⟨_, _, O1, O2, e5, rfl, r1, r2⟩ := r
            cases e5
            have : O2 = [] := r2.2
            subst this
            obtain ⟨p3, ws3, O5, e7, hp3, rfl, r5⟩ := rep_lstT r1
            cases e7
            rw [hp] at hp3; cases hp3
            obtain ⟨u', B1, B2, B3, eu', rfl, ru', put⟩ := r5.at_ e2
            rw [eu] at eu'; cases eu'
            obtain ⟨p4, us4, B4, e8, hp4, rfl, r6⟩ := rep_lstT ru'
            cases e8
            rw [hp2] at hp4; cases hp4
            obtain ⟨w', P1, P2, ew', rfl, r7, r8⟩ := r6.last e1
            rw [ew] at ew'; cases ew'
            have nd1 : (p :: (B1 ++ (p2 :: (P1 ++ P2) ++ B3))).Nodup := by simpa using nd
            have np := List.nodup_cons.mp nd1
            have nb := List.nodup_append.mp np.2
            have nc := List.nodup_append.mp nb.2.1
            have nq := List.nodup_cons.mp nc.1
            have ne : p ≠ p2 := fun e => np.1 (by rw [e]; simp)
            have S := stay1 (ys := us.dropLast) hp2 (hz p2 (by simp))
            have inner : Rep G.K Z (upd H p2 (.lst us.dropLast)) (.lst true ys.dropLast) (.ref p2) (p2 :: P1) := ⟨p2, _, P1, rfl, upd_same, rfl, RepL.keep S _ r7 fun q hq' e => nq.1 (by subst e; simp [hq'])⟩
            have outer := put S (fun q hq' e => by
              subst e
              rcases List.mem_append.mp hq' with z | z
              · exact nb.2.2 q z q (by simp) rfl
              · exact nc.2.2 q (by simp) q z rfl) inner
            rw [show ws.set j (.ref p2) = ws from by
              apply List.ext_getElem?
              intro k
              by_cases hk : j = k
              · subst hk
                rw [List.getElem?_set_self (List.getElem?_eq_some_iff.mp eu).1, eu]
              · rw [List.getElem?_set_ne hk]] at outer
            refine ⟨by simp, fun _ z => z, fun q z => ⟨.inl z, dom1 (Z := Z) (c3.dom q z)⟩, (p :: (B1 ++ (p2 :: P1 ++ B3))) ++ P2, ⟨.ref p, [w], p :: (B1 ++ (p2 :: P1 ++ B3)), P2, rfl, by simp, ⟨p, ws, _, rfl, by rw [upd_ne ne]; exact hp, rfl, outer⟩, w, [], P2, [], rfl, by simp, Rep.keep S x r8 fun q hq' e => nq.1 (by subst e; simp [hq']), rfl, rfl⟩, ?_, fun q hq' => ?_⟩
            · have pm : List.Perm (p :: (B1 ++ (p2 :: P1 ++ B3)) ++ P2) (p :: (B1 ++ (p2 :: (P1 ++ P2) ++ B3))) := by
                simp only [List.cons_append, List.append_assoc]
                exact List.Perm.cons _ (List.Perm.append_left _ (List.Perm.cons _ (List.Perm.append_left _ List.perm_append_comm)))
              exact pm.symm.nodup nd1
            · have hm : q ∈ (p :: (B1 ++ (p2 :: (P1 ++ P2) ++ B3))) := by
                simp only [List.cons_append, List.mem_cons, List.mem_append] at hq' ⊢
                grind
              exact ⟨hz q (by simpa using hm), .inl (by simpa using hm)⟩
          have c5 := (Cf.back (d := .lst true (xs.set j (.lst true ys.dropLast))) (ts := ((.v x, w) :: ts)) c4 hv)
          rw [List.set_set] at c5
          exact hq Z _ _ c5
      | _ => cases he
  | _ => cases he
end
end Fr
end
section
set_option linter.all false
set_option autoImplicit true
set_option maxRecDepth 100000
/-! Calls: what is handed on, what comes back. -/
namespace Fr
open PySem L2 PyProof.Rows
/-- what is ours without O -/
def lendG (G : Gx) (O : List Adr) (H : Hp) (Z : Adr → Prop) : Gx := { G with H0 := fun p => if p ∈ O then H p else G.H0 p, M := G.M.filter fun p => decide (p ∉ O), Z0 := Z }
section
variable {G : Gx} {Z Zx Z' : Adr → Prop} {H H' : Hp} {σ : L2.St} {E E' : Env} {ts : Ts} {O : List Adr}
/-- what is lent, as it was ours -/
structure Lent (G : Gx) (Z : Adr → Prop) (H : Hp) (O : List Adr) : Prop where
  nd : O.Nodup
  nz : ∀ p ∈ O, ¬ Z p
  chg : ∀ p ∈ O, Chg H p
  mine : ∀ p ∈ O, p ∈ G.M ∨ G.H0 p = none
  kp : ∀ p o, G.H0 p = some o → p ∉ G.M → H p = some o
  zs : ∀ p, Z p → G.Z0 p ∨ p ∈ G.M ∨ G.H0 p = none
  z0 : ∀ p, G.Z0 p → Z p
theorem Cf.lend {ds : List D} {vs : List V} (hl : ds.length = vs.length) (c : Cf G Z H σ E ((ds.map Opd.v).zip vs ++ ts)) : ∃ O, RepL G.K Z H ds vs O ∧ Lent G Z H O ∧ Cf (lendG G O H Z) Z H σ E ts := by
  obtain ⟨P, h1, h2, h3⟩ := c.own
  have hp : List.Perm (((ds.map Opd.v).zip vs).map tc ++ (cells E σ ts)) (cells E σ ((ds.map Opd.v).zip vs ++ ts)) := by
    unfold cells
    rw [List.map_append, ← List.append_assoc, ← List.append_assoc]
    exact (List.perm_append_comm).append_right _
  obtain ⟨P', q, r⟩ := Cells.sub (.perm hp) h1
  obtain ⟨O, O2, rfl, r1, r2⟩ := Cells.split r
  have nd := List.nodup_append.mp (q.nodup h2)
  have a1 : ∀ p ∈ O, ¬ Z p ∧ (p ∈ G.M ∨ G.H0 p = none) := fun p hp => h3 p (q.mem (List.mem_append_left _ hp))
  have a2 : ∀ p ∈ O2, ¬ Z p ∧ (p ∈ G.M ∨ G.H0 p = none) := fun p hp => h3 p (q.mem (List.mem_append_right _ hp))
  refine ⟨O, cells_rep hl r1, ⟨nd.1, fun p hp => (a1 p hp).1, Cells.own r1, fun p hp => (a1 p hp).2, c.kp, c.zs, c.z0⟩, ⟨c.len, ⟨O2, r2, nd.2.1, fun p hp => ⟨(a2 p hp).1, ?_⟩⟩, fun i w h => c.sls i w (List.mem_append_right _ h), fun p o e hM => ?_, c.dom, fun p z => .inl z, fun p z => z, c.pins⟩⟩
  · have np : p ∉ O := fun h => nd.2.2 p h p hp rfl
    rcases (a2 p hp).2 with m | m
    · left; exact List.mem_filter.mpr ⟨m, by simpa using np⟩
    · right; show (if p ∈ O then H p else G.H0 p) = none; rw [if_neg np]; exact m
  · by_cases np : p ∈ O
    · have e' : (if p ∈ O then H p else G.H0 p) = some o := e
      rw [if_pos np] at e'; exact e'
    · have e' : (if p ∈ O then H p else G.H0 p) = some o := e
      rw [if_neg np] at e'
      exact c.kp p o e' fun m => hM (List.mem_filter.mpr ⟨m, by simpa using np⟩)
theorem lent_not (L : Lent G Z H O) {p : Adr} (hp : p ∈ O) : ¬ (p ∈ (lendG G O H Z).M ∨ (lendG G O H Z).H0 p = none) := by
  rintro (m | m)
  · have := (List.mem_filter.mp m).2
    simp [hp] at this
  · have m' : (if p ∈ O then H p else G.H0 p) = none := m
    rw [if_pos hp] at m'
    rcases L.chg p hp with ⟨_, e⟩ | ⟨_, e⟩ <;> (rw [m'] at e; cases e)
theorem Cf.unlend {ds' : List D} {vs' : List V} {O' : List Adr} (L : Lent G Z H O) (c : Cf (lendG G O H Z) Zx H σ E ts) (hk : ∀ p o, H p = some o → p ∉ O → H' p = some o) (zz : ∀ p, Zx p → Z' p) (zd : ∀ p, Z' p → (Zx p ∨ p ∈ O ∨ H p = none) ∧ ∃ o, H' p = some o)
    (hr : RepL G.K Z' H' ds' vs' O') (nd : O'.Nodup) (w4 : ∀ p ∈ O', ¬ Z' p ∧ (p ∈ O ∨ H p = none)) : Cf G Z' H' σ E ((ds'.map Opd.v).zip vs' ++ ts) := by
  obtain ⟨O2, r2, n2, h3⟩ := c.own
  have z2 : ∀ p ∈ O2, p ∉ O := fun p hp m => lent_not L m (h3 p hp).2
  have zx : ∀ p ∈ O, ¬ Zx p := fun p hp z => by
    rcases c.zs p z with q | q
    · exact L.nz p hp q
    · exact lent_not L hp q
  have S : Stays Zx H H' Z' (fun p => p ∈ O) := ⟨zz, hk, fun p w => ⟨L.chg p w, zx p w⟩⟩
  have there : ∀ p ∈ O2, ∃ o, H p = some o := fun p hp => by
    rcases Cells.own r2 p hp with ⟨_, e⟩ | ⟨_, e⟩ <;> exact ⟨_, e⟩
  have hc : Cells G.K Z' H' (((ds'.map Opd.v).zip vs').map tc ++ cells E σ ts) (O' ++ O2) := Cells.app (cells_of hr) (Cells.keep S r2 fun p hp w => z2 p hp w)
  have hp : List.Perm (cells E σ ((ds'.map Opd.v).zip vs' ++ ts)) (((ds'.map Opd.v).zip vs').map tc ++ (cells E σ ts)) := by
    unfold cells
    rw [List.map_append, ← List.append_assoc, ← List.append_assoc]
    exact (List.perm_append_comm).append_right _
  obtain ⟨O'', q', r'⟩ := Cells.sub (.perm hp) hc
  have free : ∀ p, H p = none → p ∈ G.M ∨ G.H0 p = none := fun p e => by
    by_cases hM : p ∈ G.M
    · exact .inl hM
    · right
      cases e2 : G.H0 p with
      | none => rfl
      | some o =>
        have z := L.kp p o e2 hM
        rw [e] at z; cases z
  have ours : ∀ p, (p ∈ O ∨ H p = none) → p ∈ G.M ∨ G.H0 p = none := fun p h => h.elim (L.mine p) (free p)
  have back : ∀ p, p ∉ O → (p ∈ (lendG G O H Z).M ∨ (lendG G O H Z).H0 p = none) → p ∈ G.M ∨ G.H0 p = none := fun p np h => by
    rcases h with m | m
    · exact .inl (List.mem_filter.mp m).1
    · right
      have m' : (if p ∈ O then H p else G.H0 p) = none := m
      rwa [if_neg np] at m'
  refine ⟨c.len, ⟨O'', r', q'.nodup (List.nodup_append.mpr ⟨nd, n2, fun a ha b hb e => ?_⟩), fun p hp => ?_⟩, fun i w h => ?_, fun p o e hM => ?_, fun p z => (zd p z).2, fun p z => ?_, fun p z => zz p (c.z0 p (L.z0 p z)), c.pins⟩
  · subst e
    rcases (w4 a ha).2 with h | h
    · exact z2 a hb h
    · obtain ⟨o, e⟩ := there a hb
      rw [h] at e; cases e
  · rcases List.mem_append.mp (q'.mem hp) with h | h
    · exact ⟨(w4 p h).1, ours p (w4 p h).2⟩
    · refine ⟨fun z => ?_, back p (z2 p h) (h3 p h).2⟩
      rcases (zd p z).1 with z | z | z
      · exact (h3 p h).1 z
      · exact z2 p h z
      · obtain ⟨o, e⟩ := there p h
        rw [z] at e; cases e
  · rcases List.mem_append.mp h with h | h
    · obtain ⟨d, _, e⟩ := List.mem_map.mp (List.of_mem_zip h).1
      cases e
    · exact c.sls i w h
  · refine hk p o (L.kp p o e hM) fun w => ?_
    rcases L.mine p w with m | m
    · exact hM m
    · rw [m] at e; cases e
  · rcases (zd p z).1 with z | z
    · rcases c.zs p z with q | q
      · exact L.zs p q
      · by_cases np : p ∈ O
        · exact absurd q (lent_not L np)
        · exact .inr (back p np q)
    · exact .inr (ours p z)
end
/-! ### a def's promise -/
def mv (m : Option Nat) (vs : List V) : List V := match m with
  | none => []
  | some k => [vs.getD k .non]
/-- what holds behind a call -/
structure Post (K : PySem.W.Frag) (Z : Adr → Prop) (H : Hp) (O : List Adr) (vs : List V) (m : Option Nat) (r : D) (od : Option D) (Z' : Adr → Prop) (H' : Hp) (v : V) : Prop where
  k : ∀ p o, H p = some o → p ∉ O → H' p = some o
  z : ∀ p, Z p → Z' p
  d : ∀ p, Z' p → (Z p ∨ p ∈ O ∨ H p = none) ∧ ∃ o, H' p = some o
  r : ∃ O', RepL K Z' H' (r :: od.toList) (v :: mv m vs) O' ∧ O'.Nodup ∧ ∀ p ∈ O', ¬ Z' p ∧ (p ∈ O ∨ H p = none)
def spD (f : List D → Option (D × Option D)) (m : Option Nat) (K : PySem.W.Frag) : List V → Hp → VK → Prop := fun vs H Q =>
  ∃ Z ds O r od, RepL K Z H ds vs O ∧ O.Nodup ∧ (∀ p ∈ O, ¬ Z p) ∧ (∀ p, Z p → ∃ o, H p = some o) ∧ f ds = some (r, od) ∧ ∀ Z' H' v, Post K Z H O vs m r od Z' H' v → Q v H'
section
variable {G : Gx} {Z : Adr → Prop} {H H' : Hp} {σ : L2.St} {E E' : Env} {ts : Ts}
theorem fetch_app : ∀ {a b : List Opd} {x y : List D}, fetch E a = some x → fetch E b = some y → fetch E (a ++ b) = some (x ++ y)
  | [], b, x, y, h, h' => by cases h; exact h'
  | o :: a, b, x, y, h, h' => by
    simp only [fetch] at h
    obtain ⟨d, e1, h⟩ := Option.bind_eq_some_iff.mp h
    obtain ⟨r, e2, h⟩ := Option.map_eq_some_iff.mp h
    cases h
    simp only [List.cons_append, fetch, e1, fetch_app e2 h', Option.bind_some, Option.map_some]
theorem fetch_len : ∀ {a : List Opd} {x : List D}, fetch E a = some x → a.length = x.length
  | [], x, h => by cases h; rfl
  | o :: a, x, h => by
    simp only [fetch] at h
    obtain ⟨d, e1, h⟩ := Option.bind_eq_some_iff.mp h
    obtain ⟨r, e2, h⟩ := Option.map_eq_some_iff.mp h
    cases h
    simp [fetch_len e2]
theorem call_ok {F : Calls} {f : Nat} {m : Option Nat} {os : List Opd} {vs : List V} {o : Opd} {Q : VK} (hl : os.length = vs.length) (c : Cf G Z H σ E (os.zip vs ++ ts)) (h : callF F f m os E = some (o, E')) (hq : ∀ Z' H' v, Cf G Z' H' σ E' ((o, v) :: ts) → Q v H') :
    spD (F f) m G.K vs H Q := by
  cases m with
  | none =>
    obtain ⟨ds, e1, h⟩ := Option.bind_eq_some_iff.mp h
    obtain ⟨q, e2, h⟩ := Option.map_eq_some_iff.mp h
    cases h
    obtain ⟨Z1, z1, r1, d1, c1⟩ := Cf.frzs hl c e1
    refine ⟨Z1, ds, [], q.1, q.2, r1, List.nodup_nil, by simp, d1, e2, fun Z' H' v P => ?_⟩
    obtain ⟨O', p1, p2, p3⟩ := P.r
    have eo : q.2 = none := by
      have := RepL.len p1
      cases hq2 : q.2 with
      | none => rfl
      | some x => rw [hq2] at this; simp [mv] at this
    rw [eo] at p1
    by_cases hn : nof q.1 = true
    · rw [if_pos hn] at hq
      refine hq Z H' v (Cf.step (ds := []) (vs := []) (ds' := [q.1]) (vs' := [v]) (W := []) rfl c.drop (fun p o e _ => P.k p o e (by simp)) fun O r nd hz => ?_)
      refine ⟨by simp, fun _ z => z, fun p z => ⟨.inl z, (P.d p (P.z p (z1 p z))).2⟩, O', ?_, p2, fun p hp => ⟨fun z => (p3 p hp).1 (P.z p (z1 p z)), ?_⟩⟩
      · exact RepL.unz _ p1 (by simp [nofs, hn])
      · rcases (p3 p hp).2 with w | w
        · cases w
        · exact .inr w
    · rw [if_neg hn] at hq
      refine hq Z' H' v (Cf.step (ds := []) (vs := []) (ds' := [q.1]) (vs' := [v]) (W := []) rfl c1 (fun p o e _ => P.k p o e (by simp)) fun O r nd hz => ?_)
      refine ⟨by simp, P.z, fun p z => ⟨?_, (P.d p z).2⟩, O', p1, p2, fun p hp => ⟨(p3 p hp).1, ?_⟩⟩
      · rcases (P.d p z).1 with w | w | w
        · exact .inl w
        · cases w
        · exact .inr (.inr w)
      · rcases (p3 p hp).2 with w | w
        · cases w
        · exact .inr w
  | some k =>
    simp only [callF] at h
    cases ek : os[k]? with
    | none => rw [ek] at h; cases h
    | some ok =>
      rw [ek] at h
      cases ok with
      | v _ => cases h
      | sl i =>
        obtain ⟨d, e0, h⟩ := Option.bind_eq_some_iff.mp h
        obtain ⟨as, e1, h⟩ := Option.bind_eq_some_iff.mp h
        obtain ⟨bs, e2, h⟩ := Option.bind_eq_some_iff.mp h
        obtain ⟨q, e3, h⟩ := Option.bind_eq_some_iff.mp h
        obtain ⟨d', e4, h⟩ := Option.map_eq_some_iff.mp h
        cases h
        have hk : k < os.length := (List.getElem?_eq_some_iff.mp ek).1
        have hkv : k < vs.length := by omega
        have eos : os = os.take k ++ (Opd.sl i :: os.drop (k + 1)) := by
          have : os[k] = Opd.sl i := (List.getElem?_eq_some_iff.mp ek).2
          rw [← this, List.getElem_cons_drop, List.take_append_drop]
        have evs : vs = vs.take k ++ (vs[k] :: vs.drop (k + 1)) := by rw [List.getElem_cons_drop, List.take_append_drop]
        have lt : (os.take k).length = (vs.take k).length := by simp [hl]
        have ld : (os.drop (k + 1)).length = (vs.drop (k + 1)).length := by simp [hl]
        have ez : os.zip vs = (os.take k).zip (vs.take k) ++ ((Opd.sl i, vs[k]) :: (os.drop (k + 1)).zip (vs.drop (k + 1))) := by
          conv => lhs; rw [eos, evs]
          rw [List.zip_append lt]
          rfl
        have hσ : σ[i]? = some (some vs[k]) := c.sls i vs[k] (by rw [ez]; simp)
        have c0 := c.out e0 hσ
        -- the others ahead, then what is lent
        have c1 : Cf G Z H σ (E.set i none) ((([d] : List D).map Opd.v).zip [vs[k]] ++ ((os.take k ++ os.drop (k + 1)).zip (vs.take k ++ vs.drop (k + 1)) ++ ts)) := by
          refine Cf.tail (t := (Opd.sl i, vs[k])) (c0.perm ?_)
          rw [ez, List.zip_append lt]
          simp only [List.map_cons, List.map_nil, List.zip_cons_cons, List.zip_nil_right, List.cons_append, List.nil_append, List.append_assoc]
          refine (List.Perm.swap _ _ _).trans (List.Perm.cons _ ?_)
          exact (List.perm_middle.symm)
        obtain ⟨O, rO, L, cL⟩ := Cf.lend rfl c1
        have lo : (os.take k ++ os.drop (k + 1)).length = (vs.take k ++ vs.drop (k + 1)).length := by simp [hl]
        have ef : fetch (E.set i none) (os.take k ++ os.drop (k + 1)) = some (as ++ bs) := fetch_app e1 e2
        obtain ⟨Z1, z1, r1, d1, cF⟩ := Cf.frzs lo cL ef
        have nz : ∀ p ∈ O, ¬ Z1 p := fun p hp z => by
          rcases cF.zs p z with w | w
          · exact L.nz p hp w
          · exact lent_not L hp w
        have la : as.length = (vs.take k).length := by rw [← lt]; exact (fetch_len e1).symm
        obtain ⟨w1, w2, P1, P2, ew, eP, ra, rb⟩ := RepL.split r1
        have eP' : P1 = [] ∧ P2 = [] := by simpa using eP.symm
        obtain ⟨rfl, rfl⟩ := eP'
        have ew' : w1 = vs.take k ∧ w2 = vs.drop (k + 1) := by
          have l1 : w1.length = (vs.take k).length := by rw [← ra.len]; exact la
          exact ⟨(List.append_inj ew.symm l1).1, (List.append_inj ew.symm l1).2⟩
        obtain ⟨rfl, rfl⟩ := ew'
        have rall : RepL G.K Z1 H (as ++ d :: bs) vs O := by
          have r2 := RepL.ext rO z1 (Same.refl H)
          obtain ⟨v0, ws0, O1, O2, e5, rfl, r3, r4⟩ := r2
          cases e5
          have : O2 = [] := r4.2
          subst this
          have := RepL.app ra (ds' := d :: bs) (vs' := vs[k] :: vs.drop (k + 1)) (O' := O1 ++ []) ⟨_, _, O1, [], rfl, rfl, r3, rb⟩
          rw [← evs, List.append_nil, List.nil_append] at this
          rw [List.append_nil]
          exact this
        refine ⟨Z1, as ++ d :: bs, O, q.1, q.2, rall, L.nd, nz, d1, e3, fun Z' H' v P => ?_⟩
        obtain ⟨O', p1, p2, p3⟩ := P.r
        rw [e4] at p1
        have emv : mv (some k) vs = [vs[k]] := by simp [mv, hkv]
        rw [emv] at p1
        by_cases hn : (nof q.1 && nof d') = true
        · rw [if_pos hn] at hq
          have cU := Cf.unlend (ds' := q.1 :: [d']) (vs' := v :: [vs[k]]) (Z' := Z) (H' := H') (O' := O') L (cL.drop) P.k (fun _ z => z) (fun p z => ⟨.inl z, (P.d p (P.z p (z1 p z))).2⟩)
            (RepL.unz _ p1 (by simpa [nofs] using hn)) p2 fun p hp => ⟨fun z => (p3 p hp).1 (P.z p (z1 p z)), (p3 p hp).2⟩
          exact hq Z H' v (Cf.back (d := d') (ts := (.v q.1, v) :: ts) (cU.perm (List.Perm.swap _ _ _)) hσ)
        · rw [if_neg hn] at hq
          have cU := Cf.unlend (ds' := q.1 :: [d']) (vs' := v :: [vs[k]]) (Z' := Z') (H' := H') (O' := O') L cF P.k P.z P.d p1 p2 p3
          exact hq Z' H' v (Cf.back (d := d') (ts := (.v q.1, v) :: ts) (cU.perm (List.Perm.swap _ _ _)) hσ)
end
end Fr
end
section
set_option linter.all false
set_option autoImplicit true
namespace Fr
open PySem L2
/-- the loop over the named arguments -/
theorem kw_loop {ps : List Str} (f : Str × Value → (List (Str × Value)) × (List (Str × Value)) → Sem (ForInStep ((List (Str × Value)) × (List (Str × Value)))))
    (hf : ∀ (k : Str) (v : Value) (a b : List (Str × Value)), k ∈ ps → a.lookup k = none → f (k, v) (a, b) = pure (.yield (a ++ [(k, v)], b))) :
    ∀ (kw : List (Str × Value)) (a b : List (Str × Value)), (∀ k ∈ kw.map (·.1), k ∈ ps ∧ a.lookup k = none) → (kw.map (·.1)).Nodup → forIn kw (Prod.mk a b) f = pure (Prod.mk (a ++ kw) b)
  | [], a, b, _, _ => by simp
  | (k, v) :: r, a, b, h, nd => by
    have h1 := h k (by simp)
    have nd' : k ∉ r.map (·.1) ∧ (r.map (·.1)).Nodup := List.nodup_cons.mp nd
    rw [List.forIn_cons, hf k v a b h1.1 h1.2]
    simp only [pure_bind]
    rw [kw_loop f hf r (a ++ [(k, v)]) b (fun k' hk' => ⟨(h k' (by simp at hk' ⊢; exact .inr hk')).1, ?_⟩) nd'.2]
    · simp
    · rw [List.lookup_append, (h k' (by simp at hk' ⊢; exact .inr hk')).2]
      have ne : k' ≠ k := fun e => by
        subst e
        exact nd'.1 hk'
      have ne' : (k' == k) = false := by simpa using ne
      simp [List.lookup, ne']
theorem bind_all {fd : FuncData} {ps : List Str} {us : List Value} {kw : List (Str × Value)}
    (h1 : fd.params.posonlyargs = []) (h2 : fd.params.args.map (·.arg) = ps) (h3 : fd.params.vararg = none) (h4 : fd.params.kwonlyargs = []) (h5 : fd.params.kwarg = none) (h6 : fd.defaults = .none)
    (hu : us.length ≤ ps.length) (hk : ∀ k ∈ kw.map (·.1), k ∈ ps ∧ (ps.zip us).lookup k = none) (nd : (kw.map (·.1)).Nodup) (hall : ∀ k ∈ ps, ((ps.zip us ++ kw).lookup k).isSome = true) :
    bindArgs fd ⟨us, kw⟩ = pure (ps.filterMap fun n => ((ps.zip us ++ kw).lookup n).map (n, ·)) := by
  unfold bindArgs
  simp only [h1, h2, h3, h4, h5, h6, List.map_nil, List.nil_append, List.append_nil]
  rw [kw_loop (ps := ps) _ (fun k v a b hk ha => ?_) kw (ps.zip us) [] hk nd]
  · have hm : List.filter (fun n => (List.lookup n (ps.zip us ++ kw)).isNone) ps = [] := by
      rw [List.filter_eq_nil_iff]
      intro k hk'
      have := hall k hk'
      cases q : List.lookup k (ps.zip us ++ kw) with
      | none => rw [q] at this; cases this
      | some v => simp
    have hu' : ¬ ps.length < us.length := by omega
    simp only [pure_bind, show seqItems? Value.none = pure none from rfl, Option.getD_none, List.length_nil, Nat.zero_sub, Nat.sub_zero, List.drop_nil, List.take_length, hm, List.isEmpty_nil, gt_iff_lt, hu']
    simp [List.drop_length]
  · simp [hk, ha]
end Fr
end
section
set_option linter.all false
set_option autoImplicit true
set_option maxRecDepth 100000
/-! Defs: what a body does is what a call does. -/
namespace Fr
open PySem L2 PyProof.Rows
/-- a promise, where nothing is being written out (repr) -/
structure FnG (P : Program) (w : World) (K : PySem.W.Frag) (mg : Str → Option Value) (base : Heap) (k : Nat) (f : Adr) (fd : FuncData) (ps : List Str) (sp : List V → Hp → VK → Prop) : Prop where
  len : ∀ vs H Q, sp vs H Q → vs.length = ps.length
  run : ∀ (A : Around) (outer : List PySem.Env) (s : Shared) (H : Hp) (args : Args) (us : List Value) (vs : List V) (Q : VK), Room k A → A.guards = some [] → Env0 P w K mg base A outer s H → BindsTo s fd args (ps.zip us) → Vals vs us → sp vs H Q →
    codeAny (model P w) A (.call (.ref f) args) (CR CX0 outer P w H s Q E0) s
section
variable {P : Program} {w : World} {K : PySem.W.Frag} {mg : Str → Option Value} {base : Heap}
theorem FnG.mono {j k : Nat} {f : Adr} {fd : FuncData} {ps : List Str} {sp : List V → Hp → VK → Prop} (F : FnG P w K mg base j f fd ps sp) (h : j ≤ k) : FnG P w K mg base k f fd ps sp :=
  ⟨F.len, fun A outer s H args us vs Q hr => F.run A outer s H args us vs Q (hr.mono h)⟩
theorem fnG_of {k : Nat} {f : Adr} {x qual : Str} {st : Stmt} {fd : FuncData} {N ps : List Str} {sp : List V → Hp → VK → Prop} (F : Fun K x qual st f fd) (S : FnScope N ps (defScope st)) (len : ∀ vs H Q, sp vs H Q → vs.length = ps.length)
    (hbody : ∀ (cdv : Value) (A : Around) (outer : List PySem.Env) (s : Shared) (H : Hp) (vs : List V) (Q : VK), Room k (A.deeper (envOfC qual (defScope st) s.heap.objs.size f cdv)) → A.guards = some [] → sp vs H Q →
      ∃ t, PSs (cxOf CX0 P w K mg base N qual (defScope st) f cdv A outer s H E0).nox (defBody st) t ∧ t { nx := fun _ H' => Q .non H', rt := Q } (L2.start N vs) H) : FnG P w K mg base (k + 1) f fd ps sp := by
  obtain ⟨oc, od, kV, doc, pm, an, cdv, ct, osl, rfl, lk, hcd⟩ := F.ex
  refine ⟨len, fun A outer s H args us vs Q hr hg e0 hb r hsp => ?_⟩
  have hl := len _ _ _ hsp
  have old : ∀ b o, base.get? b = some o → s.heap.get? b = some o := fun b o e => (e0.bs b o e).1
  have KX : K.In s.heap := e0.mod.kin.keeps old
  have lim : s.heap.NoLimit := e0.mod.nolimit.keeps old
  have kinds : ∀ y ∈ ps.zip us, (defScope st).names.lookup y.1 = some .local ∨ ((defScope st).names.lookup y.1 = some .cell ∧ ((cellsFrom (s.heap.objs.size + 1) (defScope st).names []).lookup y.1).isSome = true) := fun ⟨n, v⟩ hy =>
    (S.par n (List.of_mem_zip hy).1).imp id fun q => ⟨q, PySem.W.cellsFrom_some _ _ _ (.inl q)⟩
  refine codeAny_call_function hr.depth (KX _ _ lk) rfl S.co S.gen rfl (PySem.W.codeRec_of KX hcd) (hb _ _ _ _ (wpAny_newFunctionEnv_cells S.kind kinds fun env he s1 x => ?_))
  subst he
  refine ⟨lim.keeps x.toInCall.keep, codeAny_func ?_⟩
  obtain ⟨t, ht, hq⟩ := hbody cdv A outer s H vs Q (hr.deeper _) hg hsp
  have I := inv_start (CX := CX0) (E := E0) S hr.hd e0 hl r x
  refine wpAny_mono (ht.nox.run [] s1 (L2.start N vs) H _ I hq) (fun fl s' hs => ?_) fun e s' hs => hs
  cases fl with
  | ret u => obtain ⟨v, σ', H', J, rv, q⟩ := hs; exact ⟨v, H', J.os, J.bare, J.base, J.hok, rv, q⟩
  | next => obtain ⟨σ', H', J, q⟩ := hs; exact ⟨.non, H', J.os, J.bare, J.base, J.hok, rfl, q⟩
  | brk => obtain ⟨_, _, _, q⟩ := hs; exact q.elim
  | cont => obtain ⟨_, _, _, q⟩ := hs; exact q.elim
end
section
variable {X : Cx} {k : Nat} {f : Adr} {fd : FuncData} {ps : List Str} {sp : List V → Hp → VK → Prop}
theorem run_G {pins : List (Adr × Obj)} {σ : L2.St} {H : Hp} {s : Shared} {Q : VK} {us : List Value} {kw : List (Str × Value)} {zs : List Value} {vs : List V} (F : FnG X.prog X.w X.K X.mg X.base k f fd ps sp) (hr : Room k X.A) (hg : X.A.guards = some [])
    (I : Inv X pins σ H s) (hb : BindsTo s fd ⟨us, kw⟩ (ps.zip zs)) (r : Vals vs zs) (h : sp vs H Q) : wpAny (model X.prog X.w) X.A (call (.ref f) us kw) (EP X pins σ Q) X.xe s := by
  refine wpAny_call (codeAny_mono (F.run X.A X.stack s H ⟨us, kw⟩ zs vs Q hr hg I.env0 hb r h) fun r s' hq => ?_)
  cases r with
  | error e => exact hq.elim
  | ok fl => cases fl <;> first | exact I.after hq | exact hq.elim
/-- the parameters of a def that has no others: how its arguments bind -/
structure Plain (fd : FuncData) (ps : List Str) : Prop where
  h1 : fd.params.posonlyargs = []
  h2 : fd.params.args.map (·.arg) = ps
  h3 : fd.params.vararg = none
  h4 : fd.params.kwonlyargs = []
  h5 : fd.params.kwarg = none
  h6 : fd.defaults = .none
  nd : ps.Nodup
theorem zip_look {α : Type} : ∀ {ps : List Str} {us : List α} {j : Nat} {n : Str} {u : α}, ps.Nodup → ps[j]? = some n → us[j]? = some u → (ps.zip us).lookup n = some u
  | [], _, _, _, _, _, h, _ => by simp at h
  | _ :: _, [], _, _, _, _, _, h => by simp at h
  | p :: ps, a :: us, 0, n, u, nd, h, h' => by simp at h h'; subst h h'; simp [List.lookup]
  | p :: ps, a :: us, j + 1, n, u, nd, h, h' => by
    have hn : ps[j]? = some n := by simpa using h
    have ne : (n == p) = false := by
      have : n ∈ ps := List.mem_of_getElem? hn
      have : n ≠ p := fun e => (List.nodup_cons.mp nd).1 (e ▸ this)
      simpa using this
    simp only [List.zip_cons_cons, List.lookup, ne]
    exact zip_look (List.nodup_cons.mp nd).2 hn (by simpa using h')
theorem zip_none {α : Type} : ∀ {ps : List Str} {us : List α} {n : Str}, (∀ j, j < us.length → ps[j]? ≠ some n) → (ps.zip us).lookup n = none
  | [], _, _, _ => by simp
  | _ :: _, [], _, _ => by simp
  | p :: ps, a :: us, n, h => by
    have ne : (n == p) = false := by
      have : n ≠ p := fun e => h 0 (by simp) (by simp [e])
      simpa using this
    simp only [List.zip_cons_cons, List.lookup, ne]
    exact zip_none fun j hj e => h (j + 1) (by simpa using hj) (by simpa using e)
theorem filter_zip {α : Type} {L : List (Str × α)} : ∀ {ps : List Str} {zs : List α}, ps.length = zs.length → (∀ p ∈ ps.zip zs, L.lookup p.1 = some p.2) → ps.filterMap (fun n => (L.lookup n).map (n, ·)) = ps.zip zs
  | [], [], _, _ => rfl
  | [], _ :: _, e, _ => by simp at e
  | _ :: _, [], e, _ => by simp at e
  | p :: ps, z :: zs, e, h => by
    rw [List.filterMap_cons, h (p, z) (by simp)]
    simp only [Option.map_some, List.zip_cons_cons]
    rw [filter_zip (by simpa using e) fun q hq => h q (by simp [hq])]
/-- names given at the parameters ks, behind the first m -/
structure KwOk (ps : List Str) (m : Nat) (ks : List Nat) (kn : List Str) : Prop where
  len : ps.length = m + ks.length
  nd : ks.Nodup
  all : ∀ j, j < ks.length → m + j ∈ ks
  ge : ∀ t ∈ ks, m ≤ t ∧ t < ps.length
  nm : kn = ks.map fun t => ps.getD t ⟨#[]⟩
theorem place_at {α : Type} {z : α} {as bs : List α} {ks : List Nat} {j : Nat} (hj : j < bs.length) : (place z as ks bs)[as.length + j]? = some (bs.getD (ks.idxOf (as.length + j)) z) := by
  unfold place
  rw [List.getElem?_append_right (by omega)]
  simp [hj]
theorem place_len {α : Type} {z : α} {as bs : List α} {ks : List Nat} : (place z as ks bs).length = as.length + bs.length := by simp [place]
theorem kw_binds {s : Shared} {us ws : List Value} {ks : List Nat} {kn : List Str} (hp : Plain fd ps) (h : KwOk ps us.length ks kn) (hw : ws.length = ks.length) : BindsTo s fd ⟨us, kn.zip ws⟩ (ps.zip (place .none us ks ws)) := by
  have kl : kn.length = ks.length := by rw [h.nm]; simp
  have kmem : ∀ j (hj : j < ks.length), ∃ n, ps[ks[j]]? = some n ∧ kn[j]? = some n := fun j hj => by
    have hlt := (h.ge ks[j] (List.getElem_mem hj)).2
    refine ⟨ps[ks[j]], by simp [hlt], ?_⟩
    rw [h.nm]
    simp [hj, List.getD, hlt]
  have kmap : (kn.zip ws).map (·.1) = kn := by
    rw [List.map_fst_zip]; omega
  have knd : kn.Nodup := by
    rw [List.nodup_iff_pairwise_ne, List.pairwise_iff_getElem]
    intro i j hi hj hij e
    obtain ⟨a, a1, a2⟩ := kmem i (by omega)
    obtain ⟨b, b1, b2⟩ := kmem j (by omega)
    have ea : kn[i] = a := (List.getElem?_eq_some_iff.mp a2).2
    have eb : kn[j] = b := (List.getElem?_eq_some_iff.mp b2).2
    have eab : a = b := by rw [← ea, ← eb, e]
    subst eab
    have := nodup_ix hp.nd a1 b1
    have nk := (List.nodup_iff_pairwise_ne.mp h.nd)
    exact (List.pairwise_iff_getElem.mp nk) i j (by omega) (by omega) hij this
  have out : ∀ n ∈ kn, (ps.zip us).lookup n = none := fun n hn => by
    obtain ⟨j, hj, rfl⟩ := List.mem_iff_getElem.mp hn
    obtain ⟨a, a1, a2⟩ := kmem j (by omega)
    have ea : kn[j] = a := (List.getElem?_eq_some_iff.mp a2).2
    rw [ea]
    refine zip_none fun i hi e => ?_
    have := nodup_ix hp.nd e a1
    have := (h.ge ks[j] (List.getElem_mem (by omega))).1
    omega
  -- each parameter, by its place
  have look : ∀ q ∈ ps.zip (place .none us ks ws), (ps.zip us ++ kn.zip ws).lookup q.1 = some q.2 := fun q hq => by
    obtain ⟨i, hi, e⟩ := List.mem_iff_getElem.mp hq
    have hi1 : i < ps.length := by simp at hi; omega
    have hi2 : i < (place Value.none us ks ws).length := by simp [-place] at hi; omega
    have e1 : q.1 = ps[i] := by rw [← e]; simp
    have e2 : q.2 = (place Value.none us ks ws)[i] := by rw [← e]; simp
    rw [e1, e2, List.lookup_append]
    by_cases hm : i < us.length
    · have l1 := zip_look (us := us) (j := i) hp.nd (List.getElem?_eq_getElem hi1) (List.getElem?_eq_getElem hm)
      rw [l1]
      simp [place, List.getElem_append_left, hm]
    · have hj : i - us.length < ks.length := by rw [h.len] at hi1; omega
      have hin := h.all (i - us.length) hj
      have ei : us.length + (i - us.length) = i := by omega
      rw [ei] at hin
      have ht := List.idxOf_lt_length_of_mem hin
      have e3 : ks[ks.idxOf i] = i := List.getElem_idxOf ht
      obtain ⟨a, a1, a2⟩ := kmem _ ht
      rw [e3] at a1
      have ea : ps[i] = a := by simpa [hi1] using a1
      have l1 : (ps.zip us).lookup ps[i] = none := out _ (by rw [ea]; exact List.mem_of_getElem? a2)
      have hw' : ks.idxOf i < ws.length := by omega
      have l2 := zip_look (us := ws) (j := ks.idxOf i) knd a2 (List.getElem?_eq_getElem hw')
      rw [l1, ea, l2]
      have p := place_at (z := Value.none) (as := us) (bs := ws) (ks := ks) (j := i - us.length) (by omega)
      rw [ei] at p
      have p' : (place Value.none us ks ws)[i] = ws.getD (ks.idxOf i) Value.none := by simpa [-place, hi2] using p
      rw [p']
      simp [List.getD, hw']
  have hlen : ps.length = (place Value.none us ks ws).length := by rw [place_len, hw]; exact h.len
  refine BindsTo.of_eq ?_
  rw [bind_all hp.h1 hp.h2 hp.h3 hp.h4 hp.h5 hp.h6 (by rw [h.len]; omega) (fun n hn => ?_) (by rw [kmap]; exact knd) (fun n hn => ?_), filter_zip hlen look]
  · rw [kmap] at hn
    refine ⟨?_, out n hn⟩
    obtain ⟨j, hj, rfl⟩ := List.mem_iff_getElem.mp hn
    obtain ⟨a, a1, a2⟩ := kmem j (by omega)
    rw [(List.getElem?_eq_some_iff.mp a2).2]
    exact List.mem_of_getElem? a1
  · obtain ⟨i, hi, rfl⟩ := List.mem_iff_getElem.mp hn
    have := look (ps[i], (place Value.none us ks ws)[i]'(by omega)) (List.mem_iff_getElem.mpr ⟨i, by simp [-place]; omega, by simp [-place]⟩)
    rw [this]; rfl
theorem pos_binds {s : Shared} {us : List Value} (hp : Plain fd ps) (h : us.length = ps.length) : BindsTo s fd ⟨us, []⟩ (ps.zip us) := by
  have := kw_binds (s := s) (us := us) (ws := []) (ks := []) (kn := []) hp ⟨by simp [h], List.nodup_nil, by simp, by simp, rfl⟩ rfl
  simpa [place] using this
theorem place_vals {vs zs : List V} {us ws : List Value} {ks : List Nat} (r : Vals vs us) (q : Vals zs ws) : Vals (place .non vs ks zs) (place .none us ks ws) := by
  have l1 := r.length
  have l2 := q.length
  refine r.append ?_
  rw [l1, l2]
  suffices g : ∀ l : List Nat, Vals (l.map fun j => zs.getD (ks.idxOf (us.length + j)) .non) (l.map fun j => ws.getD (ks.idxOf (us.length + j)) .none) from g _
  intro l
  induction l with
  | nil => exact .nil
  | cons a l ih =>
    refine .cons ?_ ih
    cases e : zs[ks.idxOf (us.length + a)]? with
    | none =>
      have e2 := Vals.none_of q e
      simp only [List.getD, e, e2, Option.getD_none]
      rfl
    | some z =>
      obtain ⟨u, e2, ru⟩ := q.get e
      simp only [List.getD, e, e2, Option.getD_some]
      exact ru
end
end Fr
end
section
set_option linter.all false
set_option autoImplicit true
set_option maxRecDepth 100000
/-! The rules of calls. -/
namespace Fr
open PySem L2 PyProof.Rows
theorem sub_range {I : List Nat} {n : Nat} (nd : I.Nodup) (h : ∀ i ∈ I, i < n) : Sub I (List.range n) := by
  refine ⟨(List.range n).filter (fun i => decide (i ∈ I)), ?_, List.filter_sublist⟩
  refine (List.perm_ext_iff_of_nodup nd (List.filter_sublist.nodup List.nodup_range)).mpr fun a => ?_
  simp only [List.mem_filter, List.mem_range, decide_eq_true_eq]
  exact ⟨fun m => ⟨h a m, m⟩, fun m => m.2⟩
theorem Sub.map {α β : Type} (f : α → β) {a b : List α} (h : Sub a b) : Sub (a.map f) (b.map f) := by
  obtain ⟨c, p, s⟩ := h
  exact ⟨c.map f, p.map f, s.map f⟩
theorem range_getD {α : Type} {z : α} (l : List α) : (List.range l.length).map (fun j => l.getD j z) = l := by
  apply List.ext_getElem
  · simp
  · intro i h1 h2
    simp [List.getD] at *
    simp [h2]
theorem place_sub {α : Type} {z : α} {as bs : List α} {ks : List Nat} (hl : bs.length = ks.length) (hall : ∀ j, j < ks.length → as.length + j ∈ ks) : Sub (place z as ks bs) (as ++ bs) := by
  refine (Sub.refl as).app ?_
  have e : (List.range bs.length).map (fun j => bs.getD (ks.idxOf (as.length + j)) z) = ((List.range bs.length).map fun j => ks.idxOf (as.length + j)).map fun t => bs.getD t z := by rw [List.map_map]; rfl
  rw [e]
  conv => rhs; rw [← range_getD (z := z) bs]
  refine Sub.map _ (sub_range ?_ fun i hi => ?_)
  · rw [List.nodup_iff_pairwise_ne, List.pairwise_map]
    refine List.Pairwise.imp_of_mem (fun {a b} ha hb hab e => ?_) (List.nodup_range (n := bs.length))
    have h1 := hall a (by rw [← hl]; exact List.mem_range.mp ha)
    have h2 := hall b (by rw [← hl]; exact List.mem_range.mp hb)
    have g1 : ks[ks.idxOf (as.length + a)]'(List.idxOf_lt_length_of_mem h1) = as.length + a := List.getElem_idxOf _
    have g2 : ks[ks.idxOf (as.length + b)]'(List.idxOf_lt_length_of_mem h2) = as.length + b := List.getElem_idxOf _
    have : as.length + a = as.length + b := by rw [← g1, ← g2]; simp only [e]
    exact hab (by omega)
  · obtain ⟨j, hj, rfl⟩ := List.mem_map.mp hi
    rw [hl]
    exact List.idxOf_lt_length_of_mem (hall j (by rw [← hl]; exact List.mem_range.mp hj))
theorem getD_zip {α β : Type} {z : α} {y : β} {bs : List α} {ds : List β} (h : bs.length = ds.length) (t : Nat) : (bs.zip ds).getD t (z, y) = (bs.getD t z, ds.getD t y) := by
  by_cases ht : t < bs.length
  · have ht' : t < ds.length := by omega
    have h3 : t < (bs.zip ds).length := by simp; omega
    simp only [List.getD, List.getElem?_eq_getElem h3, List.getElem?_eq_getElem ht, List.getElem?_eq_getElem ht', Option.getD_some, List.getElem_zip]
  · have ht' : ¬ t < ds.length := by omega
    have h3 : (bs.zip ds).length ≤ t := by simp; omega
    simp only [List.getD, List.getElem?_eq_none h3, List.getElem?_eq_none (Nat.le_of_not_lt ht), List.getElem?_eq_none (Nat.le_of_not_lt ht'), Option.getD_none]
theorem place_zip {α β : Type} {z : α} {y : β} {as bs : List α} {cs ds : List β} {ks : List Nat} (h1 : as.length = cs.length) (h2 : bs.length = ds.length) : (place z as ks bs).zip (place y cs ks ds) = place (z, y) (as.zip cs) ks (bs.zip ds) := by
  have l1 : (as.zip cs).length = as.length := by simp [h1]
  have l2 : (bs.zip ds).length = bs.length := by simp [h2]
  unfold place
  rw [List.zip_append h1, l1, l2, h2, h1]
  congr 1
  apply List.ext_getElem
  · simp
  · intro i h3 h4
    simp only [List.getElem_zip, List.getElem_map, List.getElem_range, getD_zip h2]
section
variable {G : Gx} {Z : Adr → Prop} {H : Hp} {σ : L2.St} {E : Env} {ts ts' : Ts}
theorem Cf.subT (c : Cf G Z H σ E ts) (s : Sub ts' ts) : Cf G Z H σ E ts' := by
  refine c.sub c.len ?_ (fun i v h => c.sls i v (s.mem h)) c.pins
  exact (Sub.refl _).app (s.map tc)
end
section
variable [PinM] {X : Cx} {k fi : Nat} {f : Adr} {fd : FuncData} {ps : List Str} {Fc : Calls} {m : Option Nat} {x : Str} {p pos : Pos} {e : Expr} {es : List Expr} {cs cks : Sems}
omit [PinM] in
theorem callF_bind {c : Sems} {E E' : Env} {o : Opd} (h : ((c E).bind fun x => callF Fc fi m x.1 x.2) = some (o, E')) : ∃ os E1, c E = some (os, E1) ∧ callF Fc fi m os E1 = some (o, E') := by
  obtain ⟨x, e1, h⟩ := Option.bind_eq_some_iff.mp h
  exact ⟨x.1, x.2, e1, h⟩
theorem r_call (F : FnG X.prog X.w X.K X.mg X.base k f fd ps (spD (Fc fi) m X.K)) (hp : Plain fd ps) (hr : Room k X.A) (hG : X.A.guards = some []) (hg : Gl X x) (hm : X.mg x = some (.ref f)) (hk : PySem.W.keepIn X.K (.ref f) = true)
    (ha : PA X (e :: es) (tEs X.K cs)) (hdb : (x == ("__debug__" : Str)) = false) (he : starEach (e :: es) X.env = (false, eval e X.env) :: starEach es X.env) (hpl : ∀ pos, (backTo pos (starEach es X.env)).any (·.1) = false) :
    PE X (.Call (.Name x p) (e :: es) [] pos) (tE X.K fun E => (cs E).bind fun x => callF Fc fi m x.1 x.2) := by
  refine ⟨fun pins s σ H Q I h => ?_⟩
  obtain ⟨G, Z, E, ts, o, E', hK, c, hc, hq⟩ := h
  obtain ⟨os, E1, e1, e2⟩ := callF_bind hc
  refine wpAny_Call_Name_kw (ld_glob I hg hm ?_ hdb)
  refine PySem.W.callWith_K (h₀ := X.base) I.ok.mod.kin hk (thn (ha.run pos pins s σ H (fun vs H1 => spD (Fc fi) m X.K vs H1 Q) I ⟨G, Z, E, ts, os, E1, hK, c, e1, fun Z1 H1 vs hl c1 => ?_⟩) fun us s1 ⟨vs, H1, I1, r, q⟩ => ⟨I1.kIn, ?_⟩) he (hpl pos)
  · rw [← hK.1]
    exact call_ok hl c1 e2 hq
  · have hl : us.length = ps.length := by rw [← r.length]; exact F.len _ _ _ q
    exact run_G F hr hG I1 (pos_binds hp hl) r q
theorem r_callK {kws : List Keyword} {ks : List Nat} {n : Nat} (F : FnG X.prog X.w X.K X.mg X.base k f fd ps (spD (Fc fi) m X.K)) (hp : Plain fd ps) (hr : Room k X.A) (hG : X.A.guards = some []) (hg : Gl X x) (hm : X.mg x = some (.ref f)) (hk : PySem.W.keepIn X.K (.ref f) = true)
    (ha : PA X es (tEs X.K cs)) (hkw : PK X kws (tEs X.K cks)) (hn : ∀ E os E', cs E = some (os, E') → os.length = es.length) (hnk : ∀ E os E', cks E = some (os, E') → os.length = ks.length) (hnil : es = [] → ∀ E os E', cs E = some (os, E') → E' = E)
    (hks : ∀ pos, KwOk ps es.length ks ((backToKw pos (keywordEach kws X.env)).filterMap (·.1))) (hall : ∀ pos, (backToKw pos (keywordEach kws X.env)).all (·.1.isSome) = true)
    (hdb : (x == ("__debug__" : Str)) = false) (he : ∀ a r, es = a :: r → starEach es X.env = (false, eval a X.env) :: starEach r X.env) (hpl : ∀ pos, ((backTo pos (starEach es X.env)).any (·.1) || (backToKw pos (keywordEach kws X.env)).any (·.1.isNone)) = false) :
    PE X (.Call (.Name x p) es kws pos) (tE X.K fun E => (cs E).bind fun x => (cks x.2).bind fun y => callF Fc fi m (place (.v .non) x.1 ks y.1) y.2) := by
  refine ⟨fun pins s σ H Q I h => ?_⟩
  obtain ⟨G, Z, E, ts, o, E', hK, c, hc, hq⟩ := h
  obtain ⟨y, e1, hc⟩ := Option.bind_eq_some_iff.mp hc
  obtain ⟨z, e2, hc⟩ := Option.bind_eq_some_iff.mp hc
  have ln := hn _ _ _ e1
  have lk := hnk _ _ _ e2
  have fin : ∀ (Z2 : Adr → Prop) (H2 : Hp) (vs zs : List V), y.1.length = vs.length → z.1.length = zs.length → Cf G Z2 H2 σ z.2 (z.1.zip zs ++ (y.1.zip vs ++ ts)) → spD (Fc fi) m X.K (place .non vs ks zs) H2 Q := fun Z2 H2 vs zs l1 l2 c2 => by
    rw [← hK.1]
    refine call_ok (Z := Z2) (os := place (.v .non) y.1 ks z.1) (by rw [place_len, place_len, l1, l2]) ?_ hc hq
    rw [place_zip l1 l2]
    have s1 := place_sub (z := (Opd.v .non, V.non)) (as := y.1.zip vs) (bs := z.1.zip zs) (ks := ks) (by simp [← l2]; omega) (fun j hj => by
      have := (hks pos).all j hj
      simpa [← l1, ln] using this)
    refine (c2.perm (ts' := (y.1.zip vs ++ z.1.zip zs) ++ ts) ?_).subT (s1.app (Sub.refl ts))
    rw [← List.append_assoc]
    exact (List.perm_append_comm).append_right _
  have last : ∀ (us ws : List Value) (vs zs : List V) (s2 : Shared) (H2 : Hp), Inv X pins σ H2 s2 → Vals vs us → Vals zs ws → us.length = es.length → ws.length = ks.length → spD (Fc fi) m X.K (place .non vs ks zs) H2 Q →
      wpAny (model X.prog X.w) X.A (call (.ref f) us (((backToKw pos (keywordEach kws X.env)).filterMap (·.1)).zip ws)) (EP X pins σ Q) X.xe s2 := fun us ws vs zs s2 H2 I2 r rz l1 l2 q =>
    run_G F hr hG I2 (kw_binds hp (by rw [l1]; exact hks pos) l2) (place_vals r rz) q
  refine wpAny_Call_Name_kw (ld_glob I hg hm ?_ hdb)
  cases es with
  | nil =>
    refine PySem.W.callWith_KW0 (h₀ := X.base) I.ok.mod.kin hk (hall pos) ?_ (hpl pos)
    have hy : y.1 = [] := List.eq_nil_of_length_eq_zero ln
    have hE : y.2 = E := hnil rfl _ _ _ e1
    rw [hE] at e2
    refine thn (hkw.run pos pins s σ H (fun zs H2 => z.1.length = zs.length ∧ ∃ Z2, Cf G Z2 H2 σ z.2 (z.1.zip zs ++ ts)) I ⟨G, Z, E, ts, z.1, z.2, hK, c, e2, fun Z2 H2 zs hl2 c2 => ⟨hl2, Z2, c2⟩⟩) fun ws s2 hx2 => ?_
    obtain ⟨zs, H2, I2, rz, hl2, Z2, c2⟩ := hx2
    exact ⟨I2.kIn, last [] ws [] zs s2 H2 I2 .nil rz rfl (by rw [← rz.length, ← hl2, lk]) (fin Z2 H2 [] zs (by rw [hy]; rfl) hl2 (by rw [hy]; exact c2))⟩
  | cons e es =>
    refine PySem.W.callWith_KW (h₀ := X.base) I.ok.mod.kin hk (hall pos) (thn (ha.run pos pins s σ H (fun vs H1 => y.1.length = vs.length ∧ ∃ Z1, Cf G Z1 H1 σ y.2 (y.1.zip vs ++ ts)) I ⟨G, Z, E, ts, y.1, y.2, hK, c, e1, fun Z1 H1 vs hl c1 => ⟨hl, Z1, c1⟩⟩) fun us s1 hx => ?_) (hpl pos) (he e es rfl)
    obtain ⟨vs, H1, I1, r, hl, Z1, c1⟩ := hx
    refine thn (hkw.run pos pins s1 σ H1 (fun zs H2 => z.1.length = zs.length ∧ ∃ Z2, Cf G Z2 H2 σ z.2 (z.1.zip zs ++ (y.1.zip vs ++ ts))) I1 ⟨G, Z1, y.2, _, z.1, z.2, hK, c1, e2, fun Z2 H2 zs hl2 c2 => ⟨hl2, Z2, c2⟩⟩) fun ws s2 hx2 => ?_
    obtain ⟨zs, H2, I2, rz, hl2, Z2, c2⟩ := hx2
    exact ⟨I2.kIn, last us ws vs zs s2 H2 I2 r rz (by rw [← r.length, ← hl, ln]) (by rw [← rz.length, ← hl2, lk]) (fin Z2 H2 vs zs hl hl2 c2)⟩
end
end Fr
end
section
set_option linter.all false
set_option autoImplicit true
set_option maxRecDepth 100000
/-! What is walked. -/
namespace Fr
open PySem L2 PyProof.Rows RT
mutual
theorem Rep.fz_nil {K : PySem.W.Frag} {Z : Adr → Prop} {H : Hp} : ∀ (d : D) {v : V} {O : List Adr}, Rep K Z H (fz d) v O → O = []
  | .non, _, _, h => h.2
  | .bl _, _, _, h => h.2
  | .int _, _, _, h => h.2
  | .str _, _, _, h => h.2
  | .tup ds, v, O, h => by
    obtain ⟨p, vs, _, _, hl⟩ := h
    exact RepL.fz_nil ds hl
  | .lst _ ds, v, O, h => by
    obtain ⟨p, vs, _, _, _, e, _⟩ := h
    exact e
  | .dic _ _ ds, v, O, h => by
    obtain ⟨p, vs, _, _, _, _, e, _⟩ := h
    exact e
theorem RepL.fz_nil {K : PySem.W.Frag} {Z : Adr → Prop} {H : Hp} : ∀ (ds : List D) {vs : List V} {O : List Adr}, RepL K Z H (fzs ds) vs O → O = []
  | [], _, _, h => h.2
  | d :: r, vs, O, h => by
    obtain ⟨v, ws, O1, O2, _, rfl, h1, h2⟩ := h
    rw [Rep.fz_nil d h1, RepL.fz_nil r h2]; rfl
end
theorem fetch1_fz {E : Env} {o : Opd} {d : D} (h : fetch1 E o = some d) : fz d = d := by
  cases o with
  | v x => cases h; exact fz_fz x
  | sl i =>
    obtain ⟨x, _, h⟩ := Option.map_eq_some_iff.mp h
    rw [← h]; exact fz_fz x
def Held (K : PySem.W.Frag) (Z : Adr → Prop) (H : Hp) (hs : Ts) : Prop := ∀ o v, (o, v) ∈ hs → ∃ d, o = .v d ∧ Rep K Z H d v []
structure WkD (K : PySem.W.Frag) (J : L2.It) (hs : Ts) (l : List D) : Prop where
  frz : ∀ o v, (o, v) ∈ hs → ∃ d, o = .v (fz d)
  stop : ∀ i Z H, Held K Z H hs → l.length ≤ i → J.stop i H
  go : ∀ i Z H, Held K Z H hs → i < l.length → J.go i H
  yld : ∀ i Z H x H', Held K Z H hs → i < l.length → J.yld i H x H' → Same H H' ∧ ∃ d, l[i]? = some d ∧ Rep K Z H' d x []
def tI [PinM] (K : PySem.W.Frag) (c : Env → Option (List D × Env)) : TI := fun σ H R => ∃ G Z E ts l E', GOk G K ∧ Cf G Z H σ E ts ∧ c E = some (l, E') ∧ ∀ Z' H' J hs, Cf G Z' H' σ E' (hs ++ ts) → WkD K J hs l → R J H'
theorem _root_.L2.PI.imp {X : Cx} {tg e : Expr} {t t' : TI} (h : PI X tg e t) (i : ∀ σ H R, t' σ H R → t σ H R) : PI X tg e t' := ⟨fun pins s σ H R I q => h.run pins s σ H R I (i σ H R q)⟩
theorem _root_.L2.PI.or {X : Cx} {tg e : Expr} {t t' : TI} (h : PI X tg e t) (h' : PI X tg e t') : PI X tg e fun σ H R => t σ H R ∨ t' σ H R :=
  ⟨fun pins s σ H R I q => q.elim (h.run pins s σ H R I) (h'.run pins s σ H R I)⟩
section
variable {G : Gx} {Z : Adr → Prop} {H : Hp} {σ : L2.St} {E : Env} {ts hs : Ts}
theorem Cf.held (c : Cf G Z H σ E (hs ++ ts)) (hf : ∀ o v, (o, v) ∈ hs → ∃ d, o = .v (fz d)) : Held G.K Z H hs := fun o v hm => by
  obtain ⟨d, rfl⟩ := hf o v hm
  refine ⟨_, rfl, ?_⟩
  obtain ⟨a, b, rfl⟩ := List.append_of_mem hm
  have c1 : Cf G Z H σ E ((.v (fz d), v) :: (a ++ b ++ ts)) := c.perm (by
    simp only [List.append_assoc, List.cons_append]
    exact List.perm_middle.symm)
  obtain ⟨O, h1, _, _⟩ := c1.own
  obtain ⟨P, _, O1, O2, rfl, r1, _⟩ := Cells.sub (a := (some (fz d), some v) :: cells E σ (a ++ b ++ ts)) (.perm (List.perm_middle.symm)) h1
  have : O1 = [] := Rep.fz_nil d r1
  subst this
  exact r1
end
section
variable {K : PySem.W.Frag} {l : List D} {a : Adr}
theorem held1 {Z : Adr → Prop} {H : Hp} {d : D} {v : V} (h : Held K Z H [(.v d, v)]) : Rep K Z H d v [] := by
  obtain ⟨d', e, r⟩ := h (.v d) v (by simp)
  cases e; exact r
theorem wk_list {b : Bool} (hf : fz (.lst b l) = .lst b l) : WkD K (Itl K a) [(.v (.lst b l), .ref a)] l where
  frz := fun o v hm => by
    obtain ⟨rfl, rfl⟩ : o = .v (.lst b l) ∧ v = .ref a := by simpa using hm
    exact ⟨.lst b l, by rw [hf]⟩
  stop := fun i Z H h hi => by
    obtain ⟨p, vs, e, hp, hl⟩ := rep_lst (held1 h)
    cases e
    exact ⟨vs, .inl hp, by rw [← hl.len]; exact hi⟩
  go := fun i Z H h hi => by
    obtain ⟨p, vs, e, hp, hl⟩ := rep_lst (held1 h)
    cases e
    obtain ⟨v, ev, _⟩ := hl.nil_of (List.getElem?_eq_getElem hi)
    exact ⟨vs, v, .inl hp, ev⟩
  yld := fun i Z H x H' h hi y => by
    obtain ⟨p, vs, e, hp, hl⟩ := rep_lst (held1 h)
    cases e
    obtain ⟨rfl, hx⟩ := y
    obtain ⟨v, ev, r⟩ := hl.nil_of (List.getElem?_eq_getElem hi)
    rw [hx vs (.inl hp)] at ev
    cases ev
    exact ⟨Same.refl _, _, List.getElem?_eq_getElem hi, r⟩
theorem wk_tup (hf : fz (.tup l) = .tup l) : WkD K (Itt K a) [(.v (.tup l), .ref a)] l where
  frz := fun o v hm => by
    obtain ⟨rfl, rfl⟩ : o = .v (.tup l) ∧ v = .ref a := by simpa using hm
    exact ⟨.tup l, by rw [hf]⟩
  stop := fun i Z H h hi => by
    obtain ⟨p, vs, e, hp, hl⟩ := rep_tup (held1 h)
    cases e
    exact ⟨vs, hp, by rw [← hl.len]; exact hi⟩
  go := fun i Z H h hi => by
    obtain ⟨p, vs, e, hp, hl⟩ := rep_tup (held1 h)
    cases e
    obtain ⟨v, ev, _⟩ := hl.nil_of (List.getElem?_eq_getElem hi)
    exact ⟨vs, v, hp, ev⟩
  yld := fun i Z H x H' h hi y => by
    obtain ⟨p, vs, e, hp, hl⟩ := rep_tup (held1 h)
    cases e
    obtain ⟨rfl, hx⟩ := y
    obtain ⟨v, ev, r⟩ := hl.nil_of (List.getElem?_eq_getElem hi)
    rw [hx vs hp] at ev
    cases ev
    exact ⟨Same.refl _, _, List.getElem?_eq_getElem hi, r⟩
theorem wk_rng {lo : Int} {n : Nat} : WkD K (Itr lo n) [] ((List.range n).map fun k => D.int (lo + (k : Nat))) where
  frz := fun o v hm => by cases hm
  stop := fun i Z H _ hi => by show n ≤ i; simpa using hi
  go := fun i Z H _ hi => by show i < n; simpa using hi
  yld := fun i Z H x H' _ hi y => by
    obtain ⟨rfl, rfl⟩ := y
    have hi' : i < n := by simpa using hi
    exact ⟨Same.refl _, .int (lo + (i : Nat)), by simp [hi'], rfl, rfl⟩
theorem enumD_at : ∀ (l : List D) (k i : Nat), (enumD k l)[i]? = (l[i]?).map fun x => .tup [.int ((k + i : Nat) : Int), x]
  | [], k, i => by simp [enumD]
  | x :: r, k, 0 => by simp [enumD]
  | x :: r, k, i + 1 => by
    simp only [enumD, List.getElem?_cons_succ]
    rw [enumD_at r (k + 1) i]
    have : k + 1 + i = k + (i + 1) := by omega
    rw [this]
theorem enumD_len : ∀ (l : List D) (k : Nat), (enumD k l).length = l.length
  | [], _ => rfl
  | x :: r, k => by simp [enumD, enumD_len r]
theorem enum_yld {Z : Adr → Prop} {H : Hp} {i : Nat} {T : Adr} {x : V} {d : D} (nT : H T = none) (r : Rep K Z H d x []) : Same H (upd H T (.tup [.int (i : Nat), x])) ∧ Rep K Z (upd H T (.tup [.int (i : Nat), x])) (.tup [.int ((0 + i : Nat) : Int), d]) (.ref T) [] := by
  refine ⟨same_upd nT, T, _, rfl, .of upd_same, .int (i : Nat), [x], [], [], rfl, rfl, ⟨by simp, rfl⟩, x, [], [], [], rfl, rfl, r.ext (fun _ z => z) (same_upd nT), rfl, rfl⟩
theorem wk_enum {b : Bool} (hf : fz (.lst b l) = .lst b l) : WkD K (Ite K a) [(.v (.lst b l), .ref a)] (enumD 0 l) where
  frz := fun o v hm => by
    obtain ⟨rfl, rfl⟩ : o = .v (.lst b l) ∧ v = .ref a := by simpa using hm
    exact ⟨.lst b l, by rw [hf]⟩
  stop := fun i Z H h hi => by
    obtain ⟨p, vs, e, hp, hl⟩ := rep_lst (held1 h)
    cases e
    exact ⟨vs, .inl hp, by rw [← hl.len, ← enumD_len l 0]; exact hi⟩
  go := fun i Z H h hi => by
    obtain ⟨p, vs, e, hp, hl⟩ := rep_lst (held1 h)
    cases e
    rw [enumD_len] at hi
    obtain ⟨v, ev, _⟩ := hl.nil_of (List.getElem?_eq_getElem hi)
    exact ⟨vs, v, .inl hp, ev⟩
  yld := fun i Z H x H' h hi y => by
    obtain ⟨p, vs, e, hp, hl⟩ := rep_lst (held1 h)
    cases e
    rw [enumD_len] at hi
    obtain ⟨T, v, rfl, nT, rfl, hx⟩ := y
    obtain ⟨v', ev, r⟩ := hl.nil_of (List.getElem?_eq_getElem hi)
    rw [hx vs (.inl hp)] at ev
    cases ev
    obtain ⟨s, r'⟩ := enum_yld (i := i) nT r
    exact ⟨s, _, by rw [enumD_at, List.getElem?_eq_getElem hi]; rfl, r'⟩
theorem wk_enumT {n : Nat} (hf : fz (.tup l) = .tup l) (hn : n = l.length) : WkD K (IteT K a n) [(.v (.tup l), .ref a)] (enumD 0 l) where
  frz := fun o v hm => by
    obtain ⟨rfl, rfl⟩ : o = .v (.tup l) ∧ v = .ref a := by simpa using hm
    exact ⟨.tup l, by rw [hf]⟩
  stop := fun i Z H h hi => by
    obtain ⟨p, vs, e, hp, hl⟩ := rep_tup (held1 h)
    cases e
    exact ⟨vs, hp, by rw [← hl.len, hn], by rw [hn, ← enumD_len l 0]; exact hi⟩
  go := fun i Z H h hi => by
    obtain ⟨p, vs, e, hp, hl⟩ := rep_tup (held1 h)
    cases e
    rw [enumD_len] at hi
    obtain ⟨v, ev, _⟩ := hl.nil_of (List.getElem?_eq_getElem hi)
    exact ⟨vs, v, hp, by rw [← hl.len, hn], ev⟩
  yld := fun i Z H x H' h hi y => by
    obtain ⟨p, vs, e, hp, hl⟩ := rep_tup (held1 h)
    cases e
    rw [enumD_len] at hi
    obtain ⟨T, v, rfl, nT, rfl, hx⟩ := y
    obtain ⟨v', ev, r⟩ := hl.nil_of (List.getElem?_eq_getElem hi)
    rw [hx vs hp] at ev
    cases ev
    obtain ⟨s, r'⟩ := enum_yld (i := i) nT r
    exact ⟨s, _, by rw [enumD_at, List.getElem?_eq_getElem hi]; rfl, r'⟩
theorem rev_at {α : Type} {l : List α} {i : Nat} (hi : i < l.length) : l.reverse[i]? = l[l.length - 1 - i]? := List.getElem?_reverse hi
theorem wk_rev {b : Bool} {n : Nat} (hf : fz (.lst b l) = .lst b l) (hn : n = l.length) : WkD K (Itv K a n) [(.v (.lst b l), .ref a)] l.reverse where
  frz := fun o v hm => by
    obtain ⟨rfl, rfl⟩ : o = .v (.lst b l) ∧ v = .ref a := by simpa using hm
    exact ⟨.lst b l, by rw [hf]⟩
  stop := fun i Z H h hi => by show n ≤ i; simpa [hn] using hi
  go := fun i Z H h hi => by
    obtain ⟨p, vs, e, hp, hl⟩ := rep_lst (held1 h)
    cases e
    have hi' : i < l.length := by simpa using hi
    obtain ⟨v, ev, _⟩ := hl.nil_of (List.getElem?_eq_getElem (show l.length - 1 - i < l.length by omega))
    exact ⟨by omega, vs, v, .inl hp, by rw [hn]; exact ev⟩
  yld := fun i Z H x H' h hi y => by
    obtain ⟨p, vs, e, hp, hl⟩ := rep_lst (held1 h)
    cases e
    have hi' : i < l.length := by simpa using hi
    obtain ⟨rfl, hx⟩ := y
    have lt : l.length - 1 - i < l.length := by omega
    obtain ⟨v, ev, r⟩ := hl.nil_of (List.getElem?_eq_getElem lt)
    rw [← hn, hx vs (.inl hp)] at ev
    cases ev
    exact ⟨Same.refl _, _, by rw [rev_at hi', List.getElem?_eq_getElem lt], r⟩
theorem wk_revT {n : Nat} (hf : fz (.tup l) = .tup l) (hn : n = l.length) : WkD K (ItvT K a n) [(.v (.tup l), .ref a)] l.reverse where
  frz := fun o v hm => by
    obtain ⟨rfl, rfl⟩ : o = .v (.tup l) ∧ v = .ref a := by simpa using hm
    exact ⟨.tup l, by rw [hf]⟩
  stop := fun i Z H h hi => by show n ≤ i; simpa [hn] using hi
  go := fun i Z H h hi => by
    obtain ⟨p, vs, e, hp, hl⟩ := rep_tup (held1 h)
    cases e
    have hi' : i < l.length := by simpa using hi
    obtain ⟨v, ev, _⟩ := hl.nil_of (List.getElem?_eq_getElem (show l.length - 1 - i < l.length by omega))
    exact ⟨by omega, vs, v, hp, by rw [hn]; exact ev⟩
  yld := fun i Z H x H' h hi y => by
    obtain ⟨p, vs, e, hp, hl⟩ := rep_tup (held1 h)
    cases e
    have hi' : i < l.length := by simpa using hi
    obtain ⟨rfl, hx⟩ := y
    have lt : l.length - 1 - i < l.length := by omega
    obtain ⟨v, ev, r⟩ := hl.nil_of (List.getElem?_eq_getElem lt)
    rw [← hn, hx vs hp] at ev
    cases ev
    exact ⟨Same.refl _, _, by rw [rev_at hi', List.getElem?_eq_getElem lt], r⟩
end
section
variable [PinM] {X : Cx} {tg e a : Expr} {es : List Expr} {ca : Sem1} {cs : Sems}
omit [PinM] in
/-- what an iterated value gives: the value frozen and held -/
theorem it_core {G : Gx} {Z : Adr → Prop} {H : Hp} {σ : L2.St} {E : Env} {ts : Ts} {o : Opd} {v : V} {d : D} (c : Cf G Z H σ E ((o, v) :: ts)) (h : fetch1 E o = some d) : ∃ Z1, Rep G.K Z1 H d v [] ∧ Cf G Z1 H σ (frz1 E o) ([(.v d, v)] ++ ts) := by
  obtain ⟨Z1, z, r, _, c1⟩ := Cf.frz1 c h
  exact ⟨Z1, r, c1.hold r⟩
theorem i_seq (h1 : ∀ t, PE X a t → PI X tg e (iList X.K t)) (h2 : ∀ t, PE X a t → PI X tg e (iTup X.K t)) (ha : PE X a (tE X.K ca)) :
    PI X tg e (tI X.K fun E => (ca E).bind fun x => (fetch1 x.2 x.1).bind fun d => (items d).map fun l => (l, frz1 x.2 x.1)) := ((h1 _ ha).or (h2 _ ha)).imp fun σ H R q => by
  obtain ⟨G, Z, E, ts, l, E', hK, c, he, hq⟩ := q
  obtain ⟨x, e1, he⟩ := Option.bind_eq_some_iff.mp he
  obtain ⟨d, e2, he⟩ := Option.bind_eq_some_iff.mp he
  obtain ⟨l', e3, he⟩ := Option.map_eq_some_iff.mp he
  cases he
  have hf := fetch1_fz e2
  cases d with
  | lst b xs =>
    cases e3
    refine .inl ⟨G, Z, E, ts, x.1, x.2, hK, c, e1, fun Z1 H1 v c1 => ?_⟩
    obtain ⟨Z2, r, c2⟩ := it_core c1 e2
    obtain ⟨p, vs, rfl, hp, hl⟩ := rep_lst r
    exact ⟨p, rfl, ⟨vs, .inl hp⟩, hq Z2 H1 _ _ c2 (wk_list hf)⟩
  | tup xs =>
    cases e3
    refine .inr ⟨G, Z, E, ts, x.1, x.2, hK, c, e1, fun Z1 H1 v c1 => ?_⟩
    obtain ⟨Z2, r, c2⟩ := it_core c1 e2
    obtain ⟨p, vs, rfl, hp, hl⟩ := rep_tup r
    rw [← hK.1]
    exact ⟨p, rfl, ⟨vs, hp⟩, hq Z2 H1 _ _ c2 (by rw [hK.1]; exact wk_tup hf)⟩
  | _ => cases e3
theorem i_rev (h1 : ∀ t, PE X a t → PI X tg e (iRevA X.K t)) (ha : PE X a (tE X.K ca)) :
    PI X tg e (tI X.K fun E => (ca E).bind fun x => (fetch1 x.2 x.1).bind fun d => (items d).map fun l => (l.reverse, frz1 x.2 x.1)) := (h1 _ ha).imp fun σ H R q => by
  obtain ⟨G, Z, E, ts, l, E', hK, c, he, hq⟩ := q
  obtain ⟨x, e1, he⟩ := Option.bind_eq_some_iff.mp he
  obtain ⟨d, e2, he⟩ := Option.bind_eq_some_iff.mp he
  obtain ⟨l', e3, he⟩ := Option.map_eq_some_iff.mp he
  cases he
  have hf := fetch1_fz e2
  refine ⟨G, Z, E, ts, x.1, x.2, hK, c, e1, fun Z1 H1 v c1 => ?_⟩
  obtain ⟨Z2, r, c2⟩ := it_core c1 e2
  cases d with
  | lst b xs =>
    cases e3
    obtain ⟨p, vs, rfl, hp, hl⟩ := rep_lst r
    exact ⟨p, vs, rfl, .inl ⟨.inl hp, hq Z2 H1 _ _ c2 (wk_rev hf hl.len.symm)⟩⟩
  | tup xs =>
    cases e3
    obtain ⟨p, vs, rfl, hp, hl⟩ := rep_tup r
    rw [hK.1] at hp
    exact ⟨p, vs, rfl, .inr ⟨hp, hq Z2 H1 _ _ c2 (wk_revT hf hl.len.symm)⟩⟩
  | _ => cases e3
theorem i_enu (h1 : ∀ t, PA X [a] t → PI X tg e (iEnum X.K t)) (h2 : ∀ t, PA X [a] t → PI X tg e (iEnumT X.K t)) (hp : ∀ t, PE X a t → PA X [a] (tCons t tNil)) (ha : PE X a (tE X.K ca)) :
    PI X tg e (tI X.K fun E => (ca E).bind fun x => (fetch1 x.2 x.1).bind fun d => (items d).map fun l => (enumD 0 l, frz1 x.2 x.1)) := ((h1 _ (hp _ ha)).or (h2 _ (hp _ ha))).imp fun σ H R q => by
  obtain ⟨G, Z, E, ts, l, E', hK, c, he, hq⟩ := q
  obtain ⟨x, e1, he⟩ := Option.bind_eq_some_iff.mp he
  obtain ⟨d, e2, he⟩ := Option.bind_eq_some_iff.mp he
  obtain ⟨l', e3, he⟩ := Option.map_eq_some_iff.mp he
  cases he
  have hf := fetch1_fz e2
  cases d with
  | lst b xs =>
    cases e3
    refine .inl ⟨G, Z, E, ts, x.1, x.2, hK, c, e1, fun Z1 H1 v c1 => ?_⟩
    obtain ⟨Z2, r, c2⟩ := it_core c1 e2
    obtain ⟨p, vs, rfl, hp, hl⟩ := rep_lst r
    exact ⟨p, vs, rfl, .inl hp, hq Z2 H1 _ _ c2 (wk_enum hf)⟩
  | tup xs =>
    cases e3
    refine .inr ⟨G, Z, E, ts, x.1, x.2, hK, c, e1, fun Z1 H1 v c1 => ?_⟩
    obtain ⟨Z2, r, c2⟩ := it_core c1 e2
    obtain ⟨p, vs, rfl, hp, hl⟩ := rep_tup r
    rw [hK.1] at hp
    exact ⟨p, vs, rfl, hp, hq Z2 H1 _ _ c2 (wk_enumT hf hl.len.symm)⟩
  | _ => cases e3
theorem i_rng (h1 : ∀ t, PA X es t → PI X tg e (fun σ H R => iRng1 t σ H R ∨ iRng2 t σ H R)) (ha : PA X es (tEs X.K cs)) :
    PI X tg e (tI X.K fun E => (cs E).bind fun x => (fetch x.2 x.1).bind fun ds => (frng ds).map fun l => (l, x.2)) := (h1 _ ha).imp fun σ H R q => by
  obtain ⟨G, Z, E, ts, l, E', hK, c, he, hq⟩ := q
  obtain ⟨x, e1, he⟩ := Option.bind_eq_some_iff.mp he
  obtain ⟨ds, e2, he⟩ := Option.bind_eq_some_iff.mp he
  obtain ⟨l', e3, he⟩ := Option.map_eq_some_iff.mp he
  cases he
  unfold frng at e3
  split at e3
  · rename_i j
    obtain ⟨cc, rfl⟩ := when_some e3
    simp only [okRng, Bool.and_eq_true, decide_eq_true_eq] at cc
    refine .inl ⟨G, Z, E, ts, x.1, x.2, hK, c, e1, fun Z1 H1 vs hl c1 => ?_⟩
    obtain ⟨Z2, _, r, _, _⟩ := Cf.frzs hl c1 e2
    obtain ⟨v, ws, O1, O2, rfl, _, r1, r2⟩ := r
    have : ws = [] := r2.1
    subst this
    refine ⟨j, by rw [rep_int r1], cc.1, cc.2, ?_⟩
    exact hq Z1 H1 _ [] (c1.drop) wk_rng
  · rename_i i j
    obtain ⟨cc, rfl⟩ := when_some e3
    simp only [okRng, Bool.and_eq_true, decide_eq_true_eq] at cc
    refine .inr ⟨G, Z, E, ts, x.1, x.2, hK, c, e1, fun Z1 H1 vs hl c1 => ?_⟩
    obtain ⟨Z2, _, r, _, _⟩ := Cf.frzs hl c1 e2
    obtain ⟨v, ws, O1, O2, rfl, _, r1, v2, ws2, O3, O4, rfl, _, r3, r4⟩ := r
    have : ws2 = [] := r4.1
    subst this
    refine ⟨i, j, by rw [rep_int r1, rep_int r3], ⟨cc.1.1, cc.1.2, cc.2.1, cc.2.2⟩, ?_⟩
    exact hq Z1 H1 _ [] (c1.drop) wk_rng
  · cases e3
end
end Fr
end
section
set_option linter.all false
set_option autoImplicit true
set_option maxRecDepth 100000
/-! Targets, comprehensions. -/
namespace Fr
open PySem L2 PyProof.Rows
def NoSl (ts : Ts) : Prop := ∀ i v, (Opd.sl i, v) ∉ ts
section
variable {G : Gx} {Z : Adr → Prop} {H H' : Hp} {σ : L2.St} {E E' : Env} {ts : Ts}
theorem Cf.ext (c : Cf G Z H σ E ts) (he : Same H H') : Cf G Z H' σ E ts := Cf.step (ds := []) (vs := []) (ds' := []) (vs' := []) (W := []) (Z' := Z) rfl c (fun p o e _ => he p o e) fun O r nd hz =>
  ⟨by simp, fun _ z => z, fun p z => ⟨.inl z, let ⟨o, e⟩ := c.dom p z; ⟨o, he _ _ e⟩⟩, [], ⟨rfl, rfl⟩, List.nodup_nil, by simp⟩
/-- a value joins a list of ours -/
theorem Cf.push {xs : List D} {p : Adr} {d : D} {w : V} (c : Cf G Z H σ E ((.v d, w) :: (.v (.lst true xs), .ref p) :: ts)) :
    ∃ ws, H p = some (.lst ws) ∧ ws.length = xs.length ∧ Cf G Z (upd H p (.lst (ws ++ [w]))) σ E ((.v (.lst true (xs ++ [d])), .ref p) :: ts) := by
  have c3 : Cf G Z H σ E (([D.lst true xs, d].map Opd.v).zip [V.ref p, w] ++ ts) := c.perm (List.Perm.swap _ _ _)
  obtain ⟨O0, r0, L, _⟩ := Cf.lend rfl c3
  obtain ⟨_, _, O1, O2, e5, rfl, r1, r2⟩ := r0
  cases e5
  obtain ⟨p2, ws, O5, e7, hws, rfl, r5⟩ := rep_lstT r1
  cases e7
  refine ⟨ws, hws, r5.len.symm, Cf.step (ds := [.lst true xs, d]) (vs := [.ref p, w]) (ds' := [.lst true (xs ++ [d])]) (vs' := [.ref p]) (W := [p]) rfl c3 (fun q o e hq' => by rw [upd_ne (by simpa using hq')]; exact e) fun O r nd hz => ?_⟩
  obtain ⟨_, _, O1, O2, e5, rfl, r1, r2⟩ := r
  cases e5
  obtain ⟨_, _, O3, O4, e6, rfl, r3, r4⟩ := r2
  cases e6
  have : O4 = [] := r4.2
  subst this
  obtain ⟨p2, ws2, O5, e7, hp2, rfl, r5⟩ := rep_lstT r1
  cases e7
  rw [hws] at hp2; cases hp2
  have S := stay1 (ys := ws ++ [w]) hws (hz p (by simp))
  have nd' := List.nodup_append.mp nd
  have np := List.nodup_cons.mp nd'.1
  refine ⟨by simp, fun _ z => z, fun q z => ⟨.inl z, dom1 (Z := Z) (c3.dom q z)⟩, p :: (O5 ++ O3), ⟨.ref p, [], p :: (O5 ++ O3), [], rfl, by simp, ⟨p, ws ++ [w], O5 ++ O3, rfl, upd_same, rfl, ?_⟩, rfl, rfl⟩, ?_, fun q hq' => ⟨hz q ?_, .inl ?_⟩⟩
  · exact RepL.app (RepL.keep S xs r5 fun q hq' e => np.1 (e ▸ hq')) ⟨w, [], O3, [], rfl, by simp, Rep.keep S d r3 fun q hq' e => nd'.2.2 p (by simp) q (by simp [hq']) e.symm, rfl, rfl⟩
  · simpa using nd
  · simpa using hq'
  · simpa using hq'
/-! ### slots put away -/
theorem wipe_len (E : Env) : ∀ l : List Nat, (Fr.wipe E l).length = E.length
  | [] => rfl
  | i :: r => by unfold Fr.wipe; rw [List.length_set, wipe_len E r]
/-- a slot forgotten -/
theorem Cf.hide {i : Nat} (c : Cf G Z H σ E ts) (hs : NoSl ts) (hp : ∀ q ∈ G.pins, q.1 ≠ i) : Cf G Z H (σ.set i none) (E.set i none) ts := by
  obtain ⟨O, h1, h2, h3⟩ := c.own
  have hc : Cells G.K Z H (tc (.sl 0, .non) :: cells E σ ts) O := ⟨[], O, rfl, rfl, h1⟩
  have hc' : Cells G.K Z H ((none, none) :: cells E σ ts) O := ⟨[], O, rfl, rfl, h1⟩
  have s : Sub (cells (E.set i none) (σ.set i none) ts) ((none, none) :: cells E σ ts) := by
    unfold cells
    rw [zip_set]
    obtain ⟨d, p, q⟩ := Sub.set (E.zip σ) i ((none, none) : Cell) (ts.map tc)
    exact ⟨_, List.Perm.refl _, List.Sublist.refl _⟩ |> fun (_ : Sub ((none, none) :: cells E σ ts) _) => by
      obtain ⟨d', p1, p2⟩ := List.exists_perm_sublist q (List.perm_middle (l₁ := E.zip σ) (l₂ := ts.map tc) (a := ((none, none) : Cell)))
      exact ⟨d', p.trans p1.symm, p2⟩
  obtain ⟨O', q, r⟩ := Cells.sub s hc'
  refine ⟨by simpa using c.len, ⟨O', r, q.nodup h2, fun p hp => h3 p (q.mem hp)⟩, fun j w hw => absurd hw (hs j w), c.kp, c.dom, c.zs, c.z0, fun q hq => ?_⟩
  rw [List.getElem?_set_ne (Ne.symm (hp q hq))]
  exact c.pins q hq
theorem Cf.hides : ∀ {own : List Nat}, Cf G Z H σ E ts → NoSl ts → (∀ q ∈ G.pins, q.1 ∉ own) → Cf G Z H (L2.wipe σ own) (Fr.wipe E own) ts
  | [], c, _, _ => c
  | i :: r, c, hs, hp => by
    have c1 := Cf.hides (own := r) c hs fun q hq h => hp q hq (by simp [h])
    exact c1.hide hs fun q hq e => hp q hq (by simp [e])
/-- what stood in the slots own, in hand -/
def saveT (E : Env) (σ : L2.St) : List Nat → Ts
  | [] => []
  | i :: r => (match get E i, (σ[i]?).bind id with
    | some d, some v => [(Opd.v d, v)]
    | _, _ => []) ++ saveT E σ r
theorem saveT_noSl (E : Env) (σ : L2.St) : ∀ l, NoSl (saveT E σ l)
  | [], i, v, h => by cases h
  | j :: r, i, v, h => by
    unfold saveT at h
    rcases List.mem_append.mp h with h | h
    · split at h <;> simp at h
    · exact saveT_noSl E σ r i v h
def noSl (ts : Ts) : Ts := ts.filter fun t => match t.1 with | .sl _ => false | .v _ => true
theorem noSl_ok (ts : Ts) : NoSl (noSl ts) := fun i v h => by
  have := (List.mem_filter.mp h).2
  simp at this
theorem noSl_cells : ∀ ts : Ts, ∀ {K : PySem.W.Frag} {Z : Adr → Prop} {H : Hp} {O : List Adr}, Cells K Z H (ts.map tc) O ↔ Cells K Z H ((noSl ts).map tc) O
  | [], _, _, _, _ => Iff.rfl
  | (.v d, v) :: ts, K, Z, H, O => by
    have e : noSl ((.v d, v) :: ts) = (.v d, v) :: noSl ts := by simp [noSl]
    rw [e]
    constructor
    · rintro ⟨O1, O2, rfl, h1, h2⟩
      exact ⟨O1, O2, rfl, h1, (noSl_cells ts).mp h2⟩
    · rintro ⟨O1, O2, rfl, h1, h2⟩
      exact ⟨O1, O2, rfl, h1, (noSl_cells ts).mpr h2⟩
  | (.sl i, v) :: ts, K, Z, H, O => by
    have e : noSl ((.sl i, v) :: ts) = noSl ts := by simp [noSl]
    rw [e]
    constructor
    · rintro ⟨O1, O2, rfl, h1, h2⟩
      have : O1 = [] := h1
      subst this
      exact (noSl_cells ts).mp h2
    · intro h
      exact ⟨[], O, rfl, rfl, (noSl_cells ts).mpr h⟩
theorem cells_noSl {K : PySem.W.Frag} {Z : Adr → Prop} {H : Hp} {O : List Adr} : Cells K Z H (cells E σ ts) O ↔ Cells K Z H (cells E σ (noSl ts)) O := by
  constructor
  · intro h
    obtain ⟨O1, O2, rfl, h1, h2⟩ := Cells.split h
    exact Cells.app h1 ((noSl_cells ts).mp h2)
  · intro h
    obtain ⟨O1, O2, rfl, h1, h2⟩ := Cells.split h
    exact Cells.app h1 ((noSl_cells ts).mpr h2)
theorem Cf.clean (c : Cf G Z H σ E ts) : Cf G Z H σ E (noSl ts) := by
  obtain ⟨O, h1, h2, h3⟩ := c.own
  exact ⟨c.len, ⟨O, cells_noSl.mp h1, h2, h3⟩, fun i v h => absurd h (noSl_ok ts i v), c.kp, c.dom, c.zs, c.z0, c.pins⟩
theorem Cf.unclean (c : Cf G Z H σ E (noSl ts)) (hs : ∀ i v, (Opd.sl i, v) ∈ ts → σ[i]? = some (some v)) : Cf G Z H σ E ts := by
  obtain ⟨O, h1, h2, h3⟩ := c.own
  exact ⟨c.len, ⟨O, cells_noSl.mpr h1, h2, h3⟩, hs, c.kp, c.dom, c.zs, c.z0, c.pins⟩
theorem noSl_app (a b : Ts) : noSl (a ++ b) = noSl a ++ noSl b := by simp [noSl]
theorem noSl_self {a : Ts} (h : NoSl a) : noSl a = a := by
  unfold noSl
  rw [List.filter_eq_self]
  intro t ht
  obtain ⟨o, v⟩ := t
  cases o with
  | v d => rfl
  | sl i => exact absurd ht (h i v)
/-- the slots own are emptied, what stood there is in hand -/
theorem Cf.saved : ∀ {own : List Nat} {E0 : Env} {E : Env} {σ0 σ : L2.St} {ts : Ts}, own.Nodup → (∀ i ∈ own, E0[i]? = E[i]? ∧ σ0[i]? = σ[i]?) → Cf G Z H σ E ts → NoSl ts → (∀ q ∈ G.pins, q.1 ∉ own) → Cf G Z H (L2.wipe σ own) (Fr.wipe E own) (saveT E0 σ0 own ++ ts)
  | [], _, _, _, _, _, _, _, c, _, _ => c
  | i :: r, E0, E, σ0, σ, ts, nd, he, c, hs, hp => by
    have nd' := List.nodup_cons.mp nd
    have c1 := Cf.saved (own := r) nd'.2 (fun j hj => he j (by simp [hj])) c hs fun q hq h => hp q hq (by simp [h])
    have ei : (Fr.wipe E r)[i]? = E[i]? ∧ (L2.wipe σ r)[i]? = σ[i]? := by
      have g : ∀ l : List Nat, i ∉ l → (Fr.wipe E l)[i]? = E[i]? ∧ (L2.wipe σ l)[i]? = σ[i]? := by
        intro l
        induction l with
        | nil => exact fun _ => ⟨rfl, rfl⟩
        | cons a l ih =>
          intro hn
          have hn' : i ≠ a ∧ i ∉ l := by simpa using hn
          unfold Fr.wipe L2.wipe
          rw [List.getElem?_set_ne hn'.1.symm, List.getElem?_set_ne hn'.1.symm]
          exact ih hn'.2
      exact g r nd'.1
    have e0 := he i (by simp)
    have ns : NoSl (saveT E0 σ0 r ++ ts) := fun j v h => (List.mem_append.mp h).elim (saveT_noSl E0 σ0 r j v) (hs j v)
    unfold saveT L2.wipe Fr.wipe
    have gE : get (Fr.wipe E r) i = get E0 i := by unfold get; rw [ei.1, ← e0.1]
    cases eg : get E0 i with
    | none =>
      simp only [List.nil_append]
      exact c1.hide ns fun q hq e => hp q hq (by simp [e])
    | some d =>
      rw [eg] at gE
      obtain ⟨v, hv⟩ := c1.slot gE
      have hv0 : σ0[i]? = some (some v) := by rw [e0.2, ← ei.2]; exact hv
      simp only [hv0, Option.bind_some, id_eq, List.cons_append, List.nil_append]
      have c2 := c1.out gE hv
      have ns2 : NoSl ((Opd.v d, v) :: (saveT E0 σ0 r ++ ts)) := fun j w h => by
        rcases List.mem_cons.mp h with h | h
        · cases h
        · exact ns j w h
      have c3 := c2.hide (i := i) ns2 fun q hq e => hp q hq (by simp [e])
      rw [List.set_set] at c3
      exact c3
theorem restore_len : ∀ {own : List Nat} {ds : List (Option D)} {E : Env}, (restore E own ds).length = E.length
  | [], _, _ => by cases ‹List (Option D)› <;> rfl
  | _ :: _, [], _ => rfl
  | i :: r, d :: ds, E => by simp [restore, restore_len]
end
end Fr
end
section
set_option linter.all false
set_option autoImplicit true
set_option maxRecDepth 100000
/-! Targets, comprehensions. -/
namespace Fr
open PySem L2 PyProof.Rows
def tgs : Tg → List Nat
  | .nm i => [i]
  | .tp l => l
/-- the same but at the slots l -/
def SameBut (l : List Nat) (σ σ' : L2.St) : Prop := σ'.length = σ.length ∧ ∀ j, j ∉ l → σ'[j]? = σ[j]?
def gT [PinM] (K : PySem.W.Frag) (tg : Tg) : TG := fun v σ H Q => ∃ G Z E ts d E', GOk G K ∧ Cf G Z H σ E ((.v d, v) :: ts) ∧ NoSl ts ∧ Fr.asg tg d E = some E' ∧ ∀ σ', SameBut (tgs tg) σ σ' → Cf G Z H σ' E' ts → Q σ' H
theorem _root_.L2.PG.imp {X : Cx} {e : Expr} {t t' : TG} (h : PG X e t) (i : ∀ v σ H Q, t' v σ H Q → t v σ H Q) : PG X e t' := ⟨fun pins s σ H v u Q I r q => h.run pins s σ H v u Q I r (i v σ H Q q)⟩
theorem sb_set (σ : L2.St) (i : Nat) (v : Option V) : SameBut [i] σ (σ.set i v) := ⟨by simp, fun j hj => by rw [List.getElem?_set_ne]; simpa using (fun e => hj (by simp [e]) : ¬ i = j)⟩
theorem SameBut.trans {l l' : List Nat} {a b c : L2.St} (h : SameBut l a b) (h' : SameBut l' b c) : SameBut (l ++ l') a c := ⟨h'.1.trans h.1, fun j hj => by
  simp only [List.mem_append, not_or] at hj
  rw [h'.2 j hj.2, h.2 j hj.1]⟩
def gNames : List Nat → TGs
  | [] => gNil
  | i :: r => gCons (gName i) (gNames r)
section
variable {G : Gx} {Z : Adr → Prop} {H H' : Hp} {σ : L2.St} {E E' : Env} {ts : Ts}
theorem NoSl.cons {d : D} {v : V} (h : NoSl ts) : NoSl ((.v d, v) :: ts) := fun i w hm => by
  rcases List.mem_cons.mp hm with e | e
  · cases e
  · exact h i w e
theorem NoSl.app {a b : Ts} (h : NoSl a) (h' : NoSl b) : NoSl (a ++ b) := fun i w hm => (List.mem_append.mp hm).elim (h i w) (h' i w)
theorem NoSl.vs {ds : List D} {vs : List V} : NoSl ((ds.map Opd.v).zip vs) := fun i w hm => by
  obtain ⟨d, _, e⟩ := List.mem_map.mp (List.of_mem_zip hm).1
  cases e
theorem Cf.untup {ds : List D} {v : V} (c : Cf G Z H σ E ((.v (.tup ds), v) :: ts)) : ∃ p vs, v = .ref p ∧ SqT G.K H p vs ∧ ds.length = vs.length ∧ Cf G Z H σ E ((ds.map Opd.v).zip vs ++ ts) := by
  obtain ⟨O, h1, h2, h3⟩ := c.own
  have hp : ∀ ts' : Ts, List.Perm (ts'.map tc ++ (cells E σ ts)) (cells E σ (ts' ++ ts)) := fun ts' => by
    unfold cells
    rw [List.map_append, ← List.append_assoc, ← List.append_assoc]
    exact (List.perm_append_comm).append_right _
  obtain ⟨P, q, r⟩ := Cells.sub (.perm (hp [(.v (.tup ds), v)])) h1
  obtain ⟨O1, O2, rfl, r1, r2⟩ := r
  obtain ⟨p, vs, rfl, hs, rl⟩ := r1
  have hc : Cells G.K Z H (((ds.map Opd.v).zip vs).map tc ++ cells E σ ts) (O1 ++ O2) := Cells.app (cells_of rl) r2
  obtain ⟨O', q', r'⟩ := Cells.sub (.perm (hp _).symm) hc
  refine ⟨p, vs, rfl, hs, rl.len, c.len, ⟨O', r', q'.nodup (q.nodup h2), fun p hp => h3 p (q.mem (q'.mem hp))⟩, fun i w hm => ?_, c.kp, c.dom, c.zs, c.z0, c.pins⟩
  rcases List.mem_append.mp hm with hm | hm
  · exact absurd hm (NoSl.vs i w)
  · exact c.sls i w (List.mem_cons_of_mem _ hm)
/-- a slot forgotten, whatever the machine has there -/
theorem Cf.hideV {i : Nat} {x : Option V} (c : Cf G Z H σ E ts) (hs : NoSl ts) (hp : ∀ q ∈ G.pins, q.1 ≠ i) : Cf G Z H (σ.set i x) (E.set i none) ts := by
  obtain ⟨O, h1, h2, h3⟩ := c.own
  have hc' : Cells G.K Z H ((none, x) :: cells E σ ts) O := ⟨[], O, rfl, rfl, h1⟩
  have s : Sub (cells (E.set i none) (σ.set i x) ts) ((none, x) :: cells E σ ts) := by
    unfold cells
    rw [zip_set]
    obtain ⟨d, p, q⟩ := Sub.set (E.zip σ) i ((none, x) : Cell) (ts.map tc)
    obtain ⟨d', p1, p2⟩ := List.exists_perm_sublist q (List.perm_middle (l₁ := E.zip σ) (l₂ := ts.map tc) (a := ((none, x) : Cell)))
    exact ⟨d', p.trans p1.symm, p2⟩
  obtain ⟨O', q, r⟩ := Cells.sub s hc'
  refine ⟨by simpa using c.len, ⟨O', r, q.nodup h2, fun p hp => h3 p (q.mem hp)⟩, fun j w hw => absurd hw (hs j w), c.kp, c.dom, c.zs, c.z0, fun q hq => ?_⟩
  rw [List.getElem?_set_ne (Ne.symm (hp q hq))]
  exact c.pins q hq
/-! ### back from a block -/
def unwipe (τ σ : L2.St) : List Nat → L2.St
  | [] => τ
  | i :: r => (unwipe τ σ r).set i ((σ[i]?).bind id)
theorem wipe_set {i : Nat} {a : Option D} : ∀ {r : List Nat} {E : Env}, i ∉ r → Fr.wipe (E.set i a) r = (Fr.wipe E r).set i a
  | [], _, _ => rfl
  | j :: r, E, h => by
    simp only [List.mem_cons, not_or] at h
    unfold Fr.wipe
    rw [wipe_set h.2, List.set_comm _ _ h.1]
theorem restore_set {i : Nat} {a : Option D} : ∀ {r : List Nat} {ds : List (Option D)} {E : Env}, i ∉ r → restore (E.set i a) r ds = (restore E r ds).set i a
  | [], ds, _, _ => by cases ds <;> rfl
  | _ :: _, [], _, _ => rfl
  | j :: r, d :: ds, E, h => by
    simp only [List.mem_cons, not_or] at h
    unfold restore
    rw [restore_set h.2, List.set_comm _ _ h.1]
theorem Cf.restored {Eq : Env} {σ τ : L2.St} : ∀ {own : List Nat} {E : Env} {ts : Ts}, own.Nodup → Cf G Z H τ (Fr.wipe E own) (saveT Eq σ own ++ ts) → NoSl ts → (∀ i ∈ own, ∀ d, get Eq i = some d → ∃ v, σ[i]? = some (some v)) → (∀ q ∈ G.pins, q.1 ∉ own) →
    Cf G Z H (unwipe τ σ own) (restore E own (own.map fun i => (Eq[i]?).bind id)) ts
  | [], E, ts, _, c, _, _, _ => by simpa [saveT, restore, unwipe, Fr.wipe] using c
  | i :: r, E, ts, nd, c, hs, hv, hp => by
    have nd' := List.nodup_cons.mp nd
    have hv' : ∀ j ∈ r, ∀ d, get Eq j = some d → ∃ v, σ[j]? = some (some v) := fun j hj => hv j (by simp [hj])
    have hp' : ∀ q ∈ G.pins, q.1 ∉ r := fun q hq m => hp q hq (by simp [m])
    have hpi : ∀ q ∈ G.pins, q.1 ≠ i := fun q hq m => hp q hq (by simp [m])
    unfold saveT Fr.wipe at c
    rw [← wipe_set nd'.1] at c
    unfold unwipe
    rw [List.map_cons]
    unfold restore
    have e2 : ∀ x, (restore E r (r.map fun i => (Eq[i]?).bind id)).set i x = (restore (E.set i none) r (r.map fun i => (Eq[i]?).bind id)).set i x := fun x => by rw [restore_set nd'.1, List.set_set]
    rw [e2]
    cases eg : get Eq i with
    | none =>
      rw [eg] at c
      have c1 := Cf.restored (own := r) (E := E.set i none) nd'.2 c hs hv' hp'
      have : (Eq[i]?).bind id = none := eg
      rw [this]
      exact c1.hideV hs hpi
    | some d =>
      obtain ⟨v, e⟩ := hv i (by simp) d eg
      rw [eg, e] at c
      have c' : Cf G Z H τ (Fr.wipe (E.set i none) r) (saveT Eq σ r ++ ((.v d, v) :: ts)) := c.perm (by
        simp only [Option.bind_some, id_eq, List.cons_append, List.nil_append]
        exact List.perm_middle)
      have c1 := Cf.restored (own := r) (E := E.set i none) nd'.2 c' hs.cons hv' hp'
      have e3 : (Eq[i]?).bind id = some d := eg
      rw [e3, e]
      exact c1.put (fun j w hm => absurd hm (hs j w)) hpi
theorem unwipe_at {τ σ : L2.St} (hl : τ.length = σ.length) : ∀ {l : List Nat} {j : Nat}, (unwipe τ σ l)[j]? = if j ∈ l then σ[j]? else τ[j]?
  | [], j => by simp [unwipe]
  | i :: r, j => by
    have ln : (unwipe τ σ r).length = σ.length := by
      have g : ∀ l : List Nat, (unwipe τ σ l).length = τ.length := by
        intro l
        induction l with
        | nil => rfl
        | cons a l ih => unfold unwipe; rw [List.length_set, ih]
      rw [g, hl]
    unfold unwipe
    by_cases e : i = j
    · subst e
      by_cases hi : i < σ.length
      · rw [List.getElem?_set_self (by omega)]
        simp [hi]
      · have h1 : σ[i]? = none := by simpa using hi
        rw [List.getElem?_eq_none (by rw [List.length_set]; omega)]
        simp [h1]
    · rw [List.getElem?_set_ne e, unwipe_at hl]
      simp [Ne.symm e]
theorem wipe_at {σ : L2.St} : ∀ {l : List Nat} {j : Nat}, (L2.wipe σ l)[j]? = if j ∈ l then (σ[j]?).map fun _ => none else σ[j]?
  | [], j => by simp [L2.wipe]
  | i :: r, j => by
    unfold L2.wipe
    by_cases e : i = j
    · subst e
      by_cases hi : i < σ.length
      · rw [List.getElem?_set_self (by rw [wipe_length]; omega)]
        simp [hi]
      · have h1 : σ[i]? = none := by simpa using hi
        rw [List.getElem?_eq_none (by rw [List.length_set, wipe_length]; omega)]
        simp [h1]
    · rw [List.getElem?_set_ne e, wipe_at]
      simp [Ne.symm e]
theorem unwipe_wipe (σ : L2.St) (l : List Nat) : unwipe (L2.wipe σ l) σ l = σ := by
  apply List.ext_getElem?
  intro j
  rw [unwipe_at (wipe_length σ l), wipe_at]
  split <;> rfl
theorem SameBut.wipe {l own : List Nat} {σ σ' : L2.St} (h : SameBut l σ σ') (hl : ∀ i ∈ l, i ∈ own) : L2.wipe σ' own = L2.wipe σ own := by
  apply List.ext_getElem?
  intro j
  rw [wipe_at, wipe_at]
  split
  · by_cases hi : j < σ.length
    · have : j < σ'.length := by rw [h.1]; exact hi
      simp [hi, this]
    · have : ¬ j < σ'.length := by rw [h.1]; exact hi
      simp [hi, this]
  · rename_i hn
    exact h.2 j fun m => hn (hl j m)
theorem wipe_wipe (σ : L2.St) (l : List Nat) : L2.wipe (L2.wipe σ l) l = L2.wipe σ l := by
  apply List.ext_getElem?
  intro j
  simp only [wipe_at]
  split
  · simp only [Option.map_map]; rfl
  · rfl
theorem names_ok : ∀ {l : List Nat} {ds : List D} {vs : List V} {σ : L2.St} {E E' : Env} {ts : Ts} {Q : L2.St → Hp → Prop}, ds.length = vs.length → Cf G Z H σ E ((ds.map Opd.v).zip vs ++ ts) → NoSl ts → (∀ q ∈ G.pins, q.1 ∉ l) → asgs l ds E = some E' → (∀ σ', SameBut l σ σ' → Cf G Z H σ' E' ts → Q σ' H) → gNames l vs σ H Q
  | [], [], [], σ, E, E', ts, Q, _, c, hs, hp, h, hq => by
    cases h
    exact ⟨rfl, hq σ ⟨rfl, fun _ _ => rfl⟩ c⟩
  | [], _ :: _, _, _, _, _, _, _, _, _, _, _, h, _ => by cases h
  | _ :: _, [], _, _, _, _, _, _, _, _, _, _, h, _ => by cases h
  | [], [], _ :: _, _, _, _, _, _, e, _, _, _, _, _ => by simp at e
  | _ :: _, _ :: _, [], _, _, _, _, _, e, _, _, _, _, _ => by simp at e
  | i :: l, d :: ds, v :: vs, σ, E, E', ts, Q, e, c, hs, hp, h, hq => by
    refine ⟨v, vs, rfl, ?_⟩
    have c1 := Cf.put (i := i) (d := d) (v := v) (ts := (ds.map Opd.v).zip vs ++ ts) c (fun j w hm => absurd hm ((NoSl.vs.app hs) j w)) (fun q hq e => hp q hq (by simp [e]))
    exact names_ok (l := l) (by simpa using e) c1 hs (fun q hq m => hp q hq (by simp [m])) h fun σ' sb c2 => hq σ' ((sb_set σ i (some v)).trans sb) c2
end
section
variable [PinM] {X : Cx} {e : Expr}
theorem g_nm {i : Nat} (h : PG X e (gName i)) (hi : i ∉ PinM.m) : PG X e (gT X.K (.nm i)) := h.imp fun v σ H Q q => by
  obtain ⟨G, Z, E, ts, d, E', hK, c, hs, ha, hq⟩ := q
  cases ha
  exact hq _ (sb_set σ i (some v)) (c.put (fun j w hm => absurd hm (hs j w)) fun q hp e => hi (e ▸ hK.2 q hp))
theorem g_tp {l : List Nat} (h : PG X e (gTup X.K l.length (gNames l))) (hi : ∀ i ∈ l, i ∉ PinM.m) : PG X e (gT X.K (.tp l)) := h.imp fun v σ H Q q => by
  obtain ⟨G, Z, E, ts, d, E', hK, c, hs, ha, hq⟩ := q
  cases d with
  | tup ds =>
    have la : l.length = ds.length := by
      have g : ∀ (l : List Nat) (ds : List D) (E : Env), asgs l ds E = some E' → l.length = ds.length := by
        intro l
        induction l with
        | nil => intro ds E h; cases ds <;> first | rfl | cases h
        | cons a l ih => intro ds E h; cases ds with
          | nil => cases h
          | cons d ds => simp [ih ds _ h]
      exact g l ds E ha
    obtain ⟨p, vs, rfl, hp, rl, c1⟩ := c.untup
    rw [← hK.1]
    refine ⟨p, vs, rfl, hp, by rw [← rl, la], ?_⟩
    exact names_ok rl c1 hs (fun q hq m => hi q.1 m (hK.2 q hq)) ha hq
  | _ => cases ha
end
end Fr
end
section
set_option linter.all false
set_option autoImplicit true
set_option maxRecDepth 100000
/-! Comprehensions. -/
namespace Fr
open PySem L2 PyProof.Rows
noncomputable def sComp (it : Env → Option (List D × Env)) (c e : Sem1) (own : List Nat) (tg : Tg) : Sem1 := fun E => (it E).bind fun q => (goComp c e own tg q.1 q.2).bind fun z =>
      when' (decide (z.1.length ≤ sizeLine)) (.v (.lst true z.1), restore z.2 own (own.map fun i => (q.2[i]?).bind id))
section
variable [PinM] {X : Cx} {K : PySem.W.Frag}
theorem lc_imp {it : Env → Option (List D × Env)} {cc ce : Sem1} {own : List Nat} {tg : Tg} {tt : TT} (htt : ∀ σ H Q, tB' K cc σ H Q → tt σ H Q) (nd : own.Nodup) (hin : ∀ i ∈ tgs tg, i ∈ own) (hpin : ∀ i ∈ own, i ∉ PinM.m) {σ : L2.St} {H : Hp} {Q : VK}
    (q : tE K (sComp it cc ce own tg) σ H Q) : tLc (tI K it) (gT K tg) tt (tE K ce) own σ H Q := by
  obtain ⟨G, Z, E, ts, o, E', hK, c, he, hq⟩ := q
  obtain ⟨⟨l, E1⟩, e1, he⟩ := Option.bind_eq_some_iff.mp he
  obtain ⟨⟨res, E2⟩, e2, he⟩ := Option.bind_eq_some_iff.mp he
  obtain ⟨hlen, hx⟩ := when_some he
  cases hx
  have hlen : res.length ≤ sizeLine := by simpa using hlen
  have hp : ∀ q ∈ G.pins, q.1 ∉ own := fun q hq m => hpin _ m (hK.2 q hq)
  refine ⟨G, Z, E, ts, l, E1, hK, c, e1, fun Z1 H1 J hs c1 wk D nD => ?_⟩
  have hsN : NoSl hs := fun i v hm => by
    obtain ⟨d, e⟩ := wk.frz _ _ hm
    cases e
  have slv : ∀ i ∈ own, ∀ d, get E1 i = some d → ∃ v, σ[i]? = some (some v) := fun i _ d e => c1.slot e
  have c2 : Cf G Z1 (upd H1 D (.lst [])) σ E1 ((.v (.lst true []), .ref D) :: (hs ++ ts)) := Cf.more c1 (same_upd nD) (O := [D]) ⟨D, [], [], rfl, upd_same, rfl, rfl, rfl⟩ (by simpa using nD) (by simp)
  have ens : noSl ((Opd.v (.lst true []), V.ref D) :: (hs ++ ts)) = (.v (.lst true []), .ref D) :: (hs ++ noSl ts) := by
    have : noSl ((Opd.v (.lst true []), V.ref D) :: (hs ++ ts)) = (.v (.lst true []), .ref D) :: noSl (hs ++ ts) := by simp [noSl]
    rw [this, noSl_app, noSl_self hsN]
  have c3 := c2.clean
  rw [ens] at c3
  have nR : NoSl (saveT E1 σ own ++ (hs ++ noSl ts)) := (saveT_noSl E1 σ own).app (hsN.app (noSl_ok ts))
  have c4 := Cf.saved (E0 := E1) (σ0 := σ) nd (fun i _ => ⟨rfl, rfl⟩) c3 (hsN.app (noSl_ok ts)).cons hp
  have c5 : Cf G Z1 (upd H1 D (.lst [])) (L2.wipe σ own) (Fr.wipe E1 own) ((.v (.lst true []), .ref D) :: (saveT E1 σ own ++ (hs ++ noSl ts))) := c4.perm List.perm_middle.symm
  refine ⟨fun i m H => ∃ Z acc Ei rest, Cf G Z H (L2.wipe σ own) (Fr.wipe Ei own) ((.v (.lst true acc), .ref D) :: (saveT E1 σ own ++ (hs ++ noSl ts))) ∧ goComp cc ce own tg (l.drop i) Ei = some (rest, E2) ∧ acc ++ rest = res ∧ m = l.length - i ∧ i ≤ l.length, ⟨_, Z1, [], E1, res, c5, e2, rfl, rfl, Nat.zero_le _⟩, ?_⟩
  rintro i m H3 ⟨Z3, acc, Ei, rest, c6, eg, er, rfl, hi⟩
  have held : Held G.K Z3 H3 hs := Cf.held (ts := (.v (.lst true acc), .ref D) :: (saveT E1 σ own ++ noSl ts)) (c6.perm (by
    refine List.perm_middle.trans (List.Perm.cons _ ?_)
    rw [← List.append_assoc, ← List.append_assoc]
    exact (List.perm_append_comm).append_right _)) wk.frz
  rw [hK.1] at held
  rcases Nat.lt_or_ge i l.length with lt | ge
  · refine .inr ⟨wk.go i Z3 H3 held lt, fun H' => ∃ m', m' < l.length - i ∧ ∃ Z acc Ei rest, Cf G Z H' (L2.wipe σ own) (Fr.wipe Ei own) ((.v (.lst true acc), .ref D) :: (saveT E1 σ own ++ (hs ++ noSl ts))) ∧ goComp cc ce own tg (l.drop (i + 1)) Ei = some (rest, E2) ∧ acc ++ rest = res ∧ m' = l.length - (i + 1) ∧ i + 1 ≤ l.length, fun H' h => h, fun x H4 y => ?_⟩
    obtain ⟨sm, d, ed, rd⟩ := wk.yld i Z3 H3 x H4 held lt y
    have edr : l.drop i = d :: l.drop (i + 1) := by
      rw [List.drop_eq_getElem_cons lt]
      have : l[i] = d := (List.getElem?_eq_some_iff.mp ed).2
      rw [this]
    rw [edr] at eg
    simp only [goComp] at eg
    obtain ⟨Ea, ea, eg⟩ := Option.bind_eq_some_iff.mp eg
    obtain ⟨⟨oc, Ec⟩, ec, eg⟩ := Option.bind_eq_some_iff.mp eg
    obtain ⟨b, eb, eg⟩ := Option.bind_eq_some_iff.mp eg
    rw [← hK.1] at rd
    have c7 := (c6.ext sm).hold rd
    refine ⟨G, Z3, _, _, d, Ea, hK, c7, nR.cons, ea, fun σ2 sb c8 => ?_⟩
    have ew : L2.wipe σ2 own = L2.wipe σ own := by rw [sb.wipe hin, wipe_wipe]
    refine ⟨ew, htt _ _ _ ⟨G, Z3, Ea, _, oc, Ec, b, hK, c8, ec, eb, fun Z4 H5 c9 => ?_⟩⟩
    have done : ∀ {Z H acc Ei rest}, Cf G Z H σ2 Ei ((.v (.lst true acc), .ref D) :: (saveT E1 σ own ++ (hs ++ noSl ts))) → goComp cc ce own tg (l.drop (i + 1)) Ei = some (rest, E2) → acc ++ rest = res →
        ∃ m', m' < l.length - i ∧ ∃ Z acc Ei rest, Cf G Z H (L2.wipe σ own) (Fr.wipe Ei own) ((.v (.lst true acc), .ref D) :: (saveT E1 σ own ++ (hs ++ noSl ts))) ∧ goComp cc ce own tg (l.drop (i + 1)) Ei = some (rest, E2) ∧ acc ++ rest = res ∧ m' = l.length - (i + 1) ∧ i + 1 ≤ l.length := fun {Z H acc Ei rest} c h1 h2 => by
      have c' := c.hides (own := own) nR.cons hp
      rw [ew] at c'
      exact ⟨_, by omega, Z, acc, Ei, rest, c', h1, h2, rfl, lt⟩
    cases b with
    | false =>
      rw [if_neg Bool.false_ne_true] at eg
      show ite _ _ _
      rw [if_neg Bool.false_ne_true]
      exact done c9 eg er
    | true =>
      rw [if_pos rfl] at eg
      show ite _ _ _
      rw [if_pos rfl]
      obtain ⟨⟨oe, Ee⟩, ee, eg⟩ := Option.bind_eq_some_iff.mp eg
      obtain ⟨⟨dt, Et⟩, et, eg⟩ := Option.bind_eq_some_iff.mp eg
      obtain ⟨⟨r2, E3⟩, ez, eg⟩ := Option.map_eq_some_iff.mp eg
      cases eg
      refine ⟨G, Z4, Ec, _, oe, Ee, hK, c9, ee, fun Z5 H6 w c10 => ?_⟩
      obtain ⟨Z6, _, c11⟩ := Cf.take c10 et
      obtain ⟨ws, hD, hl, c12⟩ := Cf.push c11
      refine ⟨ws, hD, ?_, done c12 ez (by simpa using er)⟩
      rw [hl]
      have : res.length = acc.length + (r2.length + 1) := by rw [← er]; simp
      omega
  · have ei : i = l.length := by omega
    have hd : l.drop i = [] := by rw [ei]; simp
    rw [hd] at eg
    cases eg
    refine .inl ⟨wk.stop i Z3 H3 held ge, ?_⟩
    rw [List.append_nil] at er
    subst er
    have c7 := Cf.restored (own := own) (Eq := E1) (σ := σ) nd (c6.perm (List.perm_middle)) (hsN.app (noSl_ok ts)).cons slv hp
    rw [unwipe_wipe] at c7
    have c8 : Cf G Z3 H3 σ (restore E2 own (own.map fun i => (E1[i]?).bind id)) ((.v (.lst true acc), .ref D) :: noSl ts) := c7.subT (by
      refine .sl (List.Sublist.cons_cons _ (List.sublist_append_right _ _)))
    have e9 : noSl ((Opd.v (.lst true acc), V.ref D) :: ts) = (.v (.lst true acc), .ref D) :: noSl ts := by simp [noSl]
    rw [← e9] at c8
    refine hq Z3 H3 (.ref D) (c8.unclean fun i v hm => ?_)
    rcases List.mem_cons.mp hm with e | e
    · cases e
    · exact c.sls i v e
/-- no condition -/
theorem yes_imp {σ : L2.St} {H : Hp} {Q : Bool → Hp → Prop} (q : tB' K (fun E => some (.v (.bl true), E)) σ H Q) : tYes σ H Q := by
  obtain ⟨G, Z, E, ts, o, E', b, hK, c, he, hb, hq⟩ := q
  cases he
  cases hb
  exact hq Z H c
end
end Fr
end
section
set_option linter.all false
set_option autoImplicit true
set_option maxRecDepth 100000
/-! Statements. -/
namespace Fr
open PySem L2 PyProof.Rows
theorem _root_.L2.PS.imp {X : Cx} {st : Stmt} {t t' : TS} (h : PS X st t) (i : ∀ D σ H, t' D σ H → t D σ H) : PS X st t' := ⟨fun pins s σ H D I q => h.run pins s σ H D I (i D σ H q)⟩
theorem _root_.L2.PSs.imp {X : Cx} {st : List Stmt} {t t' : TS} (h : PSs X st t) (i : ∀ D σ H, t' D σ H → t D σ H) : PSs X st t' := ⟨fun pins s σ H D I q => h.run pins s σ H D I (i D σ H q)⟩
abbrev SemS := Env → Option (Fl × Env)
def Fin (G : Gx) (ts : Ts) (D : Ends) (f : Fl) (E' : Env) : Prop := match f with
  | .nx => ∀ Z' σ' H', Cf G Z' H' σ' E' ts → D.nx σ' H'
  | .brk => ∀ Z' σ' H', Cf G Z' H' σ' E' ts → D.bk σ' H'
  | .cnt => ∀ Z' σ' H', Cf G Z' H' σ' E' ts → D.ct σ' H'
  | .ret d => ∀ Z' σ' H' v, Cf G Z' H' σ' E' ((.v d, v) :: ts) → D.rt v H'
def tS [PinM] (K : PySem.W.Frag) (c : SemS) : TS := fun D σ H => ∃ G Z E ts f E', GOk G K ∧ Cf G Z H σ E ts ∧ NoSl ts ∧ c E = some (f, E') ∧ Fin G ts D f E'
/-! ### only looked at -/
theorem mapfz_get {E : Env} {i : Nat} : get (E.map (·.map fz)) i = (get E i).map fz := by
  unfold get
  rw [List.getElem?_map]
  cases E[i]? <;> rfl
theorem Cells.fz {K : PySem.W.Frag} {Z Z' : Adr → Prop} {H : Hp} : ∀ {E : Env} {σ : L2.St} {O : List Adr}, Cells K Z H (E.zip σ) O → (∀ p, Z p → Z' p) → (∀ p ∈ O, Z' p) → Cells K Z' H ((E.map (·.map fz)).zip σ) []
  | [], _, _, _, _, _ => by simp [Cells]
  | _ :: _, [], _, _, _, _ => by simp [Cells]
  | x :: E, y :: σ, O, h, z, n => by
    obtain ⟨O1, O2, rfl, h1, h2⟩ := h
    refine ⟨[], [], rfl, ?_, Cells.fz h2 z fun p hp => n p (by simp [hp])⟩
    cases x with
    | none => rfl
    | some d =>
      cases y with
      | none => exact h1.elim
      | some v => exact Rep.frz d h1 z fun p hp => n p (by simp [hp])
section
variable [PinM] {X : Cx} {e : Expr} {ca : Sem1}
theorem r_sc (h : PE X e (tE X.K ca)) : PE X e (tE X.K fun E => (ca (E.map (·.map fz))).bind fun x => match x.1 with
      | .v d => if nof d = true then some (.v d, E) else none
      | _ => none) := h.imp fun σ H Q q => by
  obtain ⟨G, Z, E, ts, o, E', hK, c, he, hq⟩ := q
  obtain ⟨⟨ox, Ex⟩, e1, he⟩ := Option.bind_eq_some_iff.mp he
  cases ox with
  | sl i => cases he
  | v d =>
    have hn : nof d = true := by
      by_cases hn : nof d = true
      · exact hn
      · simp [hn] at he
    simp only [hn, if_true] at he
    cases he
    obtain ⟨O, h1, h2, h3⟩ := c.own
    obtain ⟨O1, O2, rfl, r1, r2⟩ := Cells.split h1
    have hd : ∀ p, Z p ∨ p ∈ O1 → ∃ o, H p = some o := fun p hp => by
      rcases hp with hp | hp
      · exact c.dom p hp
      · rcases Cells.own r1 p hp with ⟨_, e⟩ | ⟨_, e⟩ <;> exact ⟨_, e⟩
    let G' : Gx := { K := G.K, H0 := H, M := [], Z0 := fun p => Z p ∨ p ∈ O1, pins := [] }
    have c' : Cf G' (fun p => Z p ∨ p ∈ O1) H σ (E.map (·.map fz)) [] := by
      refine ⟨by simpa using c.len, ⟨[], ?_, List.nodup_nil, by simp⟩, by simp, fun p o e _ => e, hd, fun p z => .inl z, fun p z => z, by simp [G']⟩
      have := Cells.app (Cells.fz (Z' := fun p => Z p ∨ p ∈ O1) r1 (fun _ => .inl) fun _ => .inr) (b := []) (O' := []) rfl
      simpa [cells] using this
    refine ⟨G', _, _, [], .v d, Ex, ⟨hK.1, by simp [G']⟩, c', e1, fun Z' H' v c2 => ?_⟩
    have sm : Same H H' := fun p o e => c2.kp p o e (by simp [G'])
    obtain ⟨P, p1, p2, p3⟩ := c2.own
    obtain ⟨P', q, P1, P2, rfl, q1, q2⟩ := Cells.sub (a := (some d, some v) :: cells Ex σ []) (.perm (List.perm_middle.symm)) p1
    have nd := List.nodup_append.mp (q.nodup p2)
    refine hq Z H' v (Cf.more c sm (Rep.unz d q1 hn) (fun p hp => ?_) nd.1)
    rcases (p3 p (q.mem (List.mem_append_left _ hp))).2 with m | m
    · cases m
    · exact m
end
/-- an item of a list of ours is replaced -/
theorem Cf.setL {G : Gx} {Z : Adr → Prop} {H : Hp} {σ : L2.St} {E : Env} {ts : Ts} {xs : List D} {p : Adr} {d : D} {w : V} {m : Nat} (c : Cf G Z H σ E ((.v (.lst true xs), .ref p) :: (.v d, w) :: ts)) (hm : m < xs.length) :
    ∃ ws, H p = some (.lst ws) ∧ ws.length = xs.length ∧ Cf G Z (upd H p (.lst (ws.set m w))) σ E ((.v (.lst true (xs.set m d)), .ref p) :: ts) := by
  have c3 : Cf G Z H σ E (([D.lst true xs, d].map Opd.v).zip [V.ref p, w] ++ ts) := c
  obtain ⟨O0, r0, L, _⟩ := Cf.lend rfl c3
  obtain ⟨_, _, O1, O2, e5, rfl, r1, r2⟩ := r0
  cases e5
  obtain ⟨p2, ws, O5, e7, hws, rfl, r5⟩ := rep_lstT r1
  cases e7
  refine ⟨ws, hws, r5.len.symm, Cf.step (ds := [.lst true xs, d]) (vs := [.ref p, w]) (ds' := [.lst true (xs.set m d)]) (vs' := [.ref p]) (W := [p]) rfl c3 (fun q o e hq' => by rw [upd_ne (by simpa using hq')]; exact e) fun O r nd hz => ?_⟩
  obtain ⟨_, _, O1, O2, e5, rfl, r1, r2⟩ := r
  cases e5
  obtain ⟨_, _, O3, O4, e6, rfl, r3, r4⟩ := r2
  cases e6
  have : O4 = [] := r4.2
  subst this
  obtain ⟨p2, ws2, O5, e7, hp2, rfl, r5⟩ := rep_lstT r1
  cases e7
  rw [hws] at hp2; cases hp2
  have S := stay1 (ys := ws.set m w) hws (hz p (by simp))
  have nd' := List.nodup_append.mp nd
  have np := List.nodup_cons.mp nd'.1
  obtain ⟨u, A1, A2, A3, eu, rfl, ru, put⟩ := r5.at_ (List.getElem?_eq_getElem hm)
  have hsub : Sub (p :: (A1 ++ (O3 ++ A3))) ((p :: (A1 ++ (A2 ++ A3))) ++ (O3 ++ [])) := by
    refine ⟨p :: (A1 ++ (A3 ++ O3)), List.Perm.cons _ (List.Perm.append_left _ List.perm_append_comm), ?_⟩
    simp only [List.append_nil, List.cons_append, List.append_assoc]
    exact List.Sublist.cons_cons _ ((List.Sublist.refl _).append (List.sublist_append_right _ _))
  refine ⟨by simp, fun _ z => z, fun q z => ⟨.inl z, dom1 (Z := Z) (c3.dom q z)⟩, p :: (A1 ++ (O3 ++ A3)), ⟨.ref p, [], p :: (A1 ++ (O3 ++ A3)), [], rfl, by simp, ⟨p, ws.set m w, _, rfl, upd_same, rfl, ?_⟩, rfl, rfl⟩, hsub.nodup nd, fun q hq' => ⟨hz q (hsub.mem hq'), .inl (hsub.mem hq')⟩⟩
  exact put S (fun q hq' e => np.1 (by subst e; rcases List.mem_append.mp hq' with z | z <;> simp [z])) (Rep.keep S d r3 fun q hq' e => nd'.2.2 p (by simp) q (by simp [hq']) e.symm)
section
variable [PinM] {X : Cx} {st : Stmt} {rest : List Stmt} {c cr : SemS} {ce ck : Sem1} {e : Expr}
theorem s_nil : PSs X [] (tS X.K fun E => some (.nx, E)) := (pss_nil (X := X)).imp fun D σ H q => by
  obtain ⟨G, Z, E, ts, f, E', hK, c, hs, he, hf⟩ := q
  cases he
  exact hf Z σ H c
theorem s_cons (h1 : PS X st (tS X.K c)) (h2 : PSs X rest (tS X.K cr)) : PSs X (st :: rest) (tS X.K fun E => (c E).bind fun q => match q.1 with
      | .nx => cr q.2
      | f => some (f, q.2)) := (pss_cons h1 h2).imp fun D σ H q => by
  obtain ⟨G, Z, E, ts, f, E', hK, c, hs, he, hf⟩ := q
  obtain ⟨⟨f1, E1⟩, e1, he⟩ := Option.bind_eq_some_iff.mp he
  refine ⟨G, Z, E, ts, f1, E1, hK, c, hs, e1, ?_⟩
  cases f1 with
  | nx => exact fun Z' σ' H' c' => ⟨G, Z', E1, ts, f, E', hK, c', hs, he, hf⟩
  | brk => cases he; exact hf
  | cnt => cases he; exact hf
  | ret d => cases he; exact hf
theorem s_pass (h : PS X st tNext) : PS X st (tS X.K fun E => some (.nx, E)) := h.imp fun D σ H q => by
  obtain ⟨G, Z, E, ts, f, E', hK, c, hs, he, hf⟩ := q
  cases he
  exact hf Z σ H c
theorem s_brk (h : PS X st tBreak) : PS X st (tS X.K fun E => some (.brk, E)) := h.imp fun D σ H q => by
  obtain ⟨G, Z, E, ts, f, E', hK, c, hs, he, hf⟩ := q
  cases he
  exact hf Z σ H c
theorem s_cnt (h : PS X st tCont) : PS X st (tS X.K fun E => some (.cnt, E)) := h.imp fun D σ H q => by
  obtain ⟨G, Z, E, ts, f, E', hK, c, hs, he, hf⟩ := q
  cases he
  exact hf Z σ H c
theorem s_ex (h : PS X st (tDrop (tE X.K ce))) : PS X st (tS X.K fun E => (ce E).map fun x => (.nx, x.2)) := h.imp fun D σ H q => by
  obtain ⟨G, Z, E, ts, f, E', hK, c, hs, he, hf⟩ := q
  obtain ⟨x, e1, he⟩ := Option.map_eq_some_iff.mp he
  cases he
  exact ⟨G, Z, E, ts, x.1, x.2, hK, c, e1, fun Z' H' v c' => hf Z' σ H' c'.tail⟩
theorem s_asg {t : TE} {i : Nat} (h : PS X st (tAsg t (gName i))) (hi : i ∉ PinM.m) (im : ∀ σ H Q, tE X.K ce σ H Q → t σ H Q) : PS X st (tS X.K fun E => (ce E).bind fun x => (take x.2 x.1).map fun q => (.nx, q.2.set i (some q.1))) := h.imp fun D σ H q => by
  obtain ⟨G, Z, E, ts, f, E', hK, c, hs, he, hf⟩ := q
  obtain ⟨x, e1, he⟩ := Option.bind_eq_some_iff.mp he
  obtain ⟨q, e2, he⟩ := Option.map_eq_some_iff.mp he
  cases he
  refine im _ _ _ ⟨G, Z, E, ts, x.1, x.2, hK, c, e1, fun Z1 H1 v c1 => ?_⟩
  obtain ⟨Z2, _, c2⟩ := Cf.take c1 (d := q.1) (E' := q.2) e2
  exact hf Z2 _ H1 (c2.put (fun j w hm => absurd hm (hs j w)) fun q hp e => hi (e ▸ hK.2 q hp))
theorem s_asgT {l : List Nat} {t : TE} (h : PS X st (tAsg t (gT X.K (.tp l)))) (im : ∀ σ H Q, tE X.K ce σ H Q → t σ H Q) : PS X st (tS X.K fun E => (ce E).bind fun x => (take x.2 x.1).bind fun q => (asg (.tp l) q.1 q.2).map fun E' => (.nx, E')) := h.imp fun D σ H q => by
  obtain ⟨G, Z, E, ts, f, E', hK, c, hs, he, hf⟩ := q
  obtain ⟨x, e1, he⟩ := Option.bind_eq_some_iff.mp he
  obtain ⟨q, e2, he⟩ := Option.bind_eq_some_iff.mp he
  obtain ⟨E3, e3, he⟩ := Option.map_eq_some_iff.mp he
  cases he
  refine im _ _ _ ⟨G, Z, E, ts, x.1, x.2, hK, c, e1, fun Z1 H1 v c1 => ?_⟩
  obtain ⟨Z2, _, c2⟩ := Cf.take c1 (d := q.1) (E' := q.2) e2
  exact ⟨G, Z2, q.2, ts, q.1, _, hK, c2, hs, e3, fun σ' _ c3 => hf Z2 σ' H1 c3⟩
theorem s_par {i j : Nat} {a b : Expr} {ca cb : Sem1} (h : ∀ t, PA X [a, b] t → PS X st (tPar i j t)) (hc : ∀ t u, PE X a t → PE X b u → PA X [a, b] (tCons t (tCons u tNil))) (hi : i ∉ PinM.m) (hj : j ∉ PinM.m) (ha : PE X a (tE X.K ca)) (hb : PE X b (tE X.K cb)) :
    PS X st (tS X.K fun E => (ca E).bind fun x => (cb x.2).bind fun y => (take y.2 x.1).bind fun q => (take q.2 y.1).map fun z => (.nx, (z.2.set i (some q.1)).set j (some z.1))) := (h _ (hc _ _ ha hb)).imp fun D σ H q => by
  obtain ⟨G, Z, E, ts, f, E', hK, c, hs, he, hf⟩ := q
  obtain ⟨x, e1, he⟩ := Option.bind_eq_some_iff.mp he
  obtain ⟨y, e2, he⟩ := Option.bind_eq_some_iff.mp he
  obtain ⟨q, e3, he⟩ := Option.bind_eq_some_iff.mp he
  obtain ⟨z, e4, he⟩ := Option.map_eq_some_iff.mp he
  cases he
  refine ⟨G, Z, E, ts, x.1, x.2, hK, c, e1, fun Z1 H1 v c1 => ⟨G, Z1, x.2, _, y.1, y.2, hK, c1, e2, fun Z2 H2 w c2 => ⟨v, w, rfl, ?_⟩⟩⟩
  obtain ⟨Z3, _, c3⟩ := Cf.take (c2.perm (List.Perm.swap _ _ _)) (d := q.1) (E' := q.2) e3
  obtain ⟨Z4, _, c4⟩ := Cf.take (c3.perm (List.Perm.swap _ _ _)) (d := z.1) (E' := z.2) e4
  have c5 := (c4.perm (List.Perm.swap _ _ _)).put (i := i) (fun j w hm => absurd hm (hs.cons j w)) fun q hp e => hi (e ▸ hK.2 q hp)
  exact hf Z4 _ H2 (c5.put (i := j) (fun j w hm => absurd hm (hs j w)) fun q hp e => hj (e ▸ hK.2 q hp))
theorem s_six {i : Nat} (h : PS X st (tAsg (tE X.K ce) (gSub (tVar i) (tE X.K ck) rSetL))) : PS X st (tS X.K fun E => (get E i).bind fun _ => (ce E).bind fun x => (ck x.2).bind fun y => (fetch1 y.2 y.1).bind fun n => (take y.2 x.1).bind fun q => (get q.2 i).bind fun d => match d, n with
      | .lst true xs, .int j => (ixN xs.length j).map fun m => (.nx, q.2.set i (some (.lst true (xs.set m q.1))))
      | _, _ => none) := h.imp fun D σ H q => by
  obtain ⟨G, Z, E, ts, f, E', hK, c, hs, he, hf⟩ := q
  obtain ⟨d0, e0, he⟩ := Option.bind_eq_some_iff.mp he
  obtain ⟨x, e1, he⟩ := Option.bind_eq_some_iff.mp he
  obtain ⟨y, e2, he⟩ := Option.bind_eq_some_iff.mp he
  obtain ⟨n, e3, he⟩ := Option.bind_eq_some_iff.mp he
  obtain ⟨q, e4, he⟩ := Option.bind_eq_some_iff.mp he
  obtain ⟨d, e5, he⟩ := Option.bind_eq_some_iff.mp he
  obtain ⟨p, hv⟩ := c.slot e0
  split at he
  · rename_i xs j _ _
    obtain ⟨m, e6, he⟩ := Option.map_eq_some_iff.mp he
    cases he
    refine ⟨G, Z, E, ts, x.1, x.2, hK, c, e1, fun Z1 H1 v c1 => ⟨p, hv, G, Z1, x.2, _, y.1, y.2, hK, c1, e2, fun Z2 H2 w c2 => ?_⟩⟩
    obtain ⟨_, _, rw, _, _⟩ := Cf.frz1 c2 e3
    rw [rep_int rw]
    obtain ⟨Z3, _, c3⟩ := Cf.take c2.tail (d := q.1) (E' := q.2) e4
    have c4 := c3.out e5 hv
    have hm : m < xs.length := (ixN_seq e6).2.1
    obtain ⟨O0, r0, _, _⟩ := Cf.lend (ds := [.lst true xs]) (vs := [p]) rfl c4
    obtain ⟨_, _, O1, O2, e7, rfl, r1, r2⟩ := r0
    cases e7
    obtain ⟨p, ws, O', rfl, _⟩ := rep_lstT r1
    obtain ⟨ws, hp, hl, c5⟩ := c4.setL hm
    refine ⟨p, ws, j, m, rfl, rfl, hp, by rw [hl]; exact e6, ?_⟩
    have c6 := Cf.back c5 hv
    rw [List.set_set] at c6
    exact hf Z3 σ _ c6
  · cases he
theorem s_ife {ct : Sem1} {a b : List Stmt} {ca cb : SemS} (h : PS X st (tIfS (tB' X.K ct) (tS X.K ca) (tS X.K cb))) : PS X st (tS X.K fun E => (ct E).bind fun x => (boolOf x.2 x.1).bind fun t => if t = true then ca x.2 else cb x.2) := h.imp fun D σ H q => by
  obtain ⟨G, Z, E, ts, f, E', hK, c, hs, he, hf⟩ := q
  obtain ⟨x, e1, he⟩ := Option.bind_eq_some_iff.mp he
  obtain ⟨t, e2, he⟩ := Option.bind_eq_some_iff.mp he
  refine ⟨G, Z, E, ts, x.1, x.2, t, hK, c, e1, e2, fun Z1 H1 c1 => ?_⟩
  cases t with
  | true => exact ⟨G, Z1, x.2, ts, f, E', hK, c1, hs, he, hf⟩
  | false => exact ⟨G, Z1, x.2, ts, f, E', hK, c1, hs, he, hf⟩
theorem s_ret (h : PS X st (tRet (tE X.K ce))) : PS X st (tS X.K fun E => (ce E).bind fun x => match x.1 with
      | .sl i => (get x.2 i).map fun d => (.ret d, x.2.set i none)
      | .v d => some (.ret d, x.2)) := h.imp fun D σ H q => by
  obtain ⟨G, Z, E, ts, f, E', hK, c, hs, he, hf⟩ := q
  obtain ⟨⟨o, E1⟩, e1, he⟩ := Option.bind_eq_some_iff.mp he
  refine ⟨G, Z, E, ts, o, E1, hK, c, e1, fun Z1 H1 v c1 => ?_⟩
  cases o with
  | v d => cases he; exact hf Z1 σ H1 v c1
  | sl i =>
    obtain ⟨d, e2, he⟩ := Option.map_eq_some_iff.mp he
    cases he
    exact hf Z1 σ H1 v (c1.tail.out e2 (c1.sls i v (by simp)))
theorem lim_some {α : Type} {f : Nat → Option α} {x : α} (h : lim f = some x) : ∃ n, f n = some x := by
  unfold lim at h
  split at h
  · exact ⟨_, h⟩
  · cases h
theorem s_wh {ct : Sem1} {cb : SemS} (h : PS X st (tWhile (tB' X.K ct) (tS X.K cb))) : PS X st (tS X.K fun E => lim fun n => goWh ct cb n E) := h.imp fun D σ H q => by
  obtain ⟨G, Z, E, ts, f, E', hK, c, hs, he, hf⟩ := q
  obtain ⟨n, he⟩ := lim_some he
  refine ⟨fun m σ H => ∃ Z E, Cf G Z H σ E ts ∧ goWh ct cb m E = some (f, E'), ⟨n, Z, E, c, he⟩, ?_⟩
  rintro m σ1 H1 ⟨Z1, E1, c1, h1⟩
  cases m with
  | zero => cases h1
  | succ m =>
    simp only [goWh] at h1
    obtain ⟨x, e1, h1⟩ := Option.bind_eq_some_iff.mp h1
    obtain ⟨t, e2, h1⟩ := Option.bind_eq_some_iff.mp h1
    refine ⟨G, Z1, E1, ts, x.1, x.2, t, hK, c1, e1, e2, fun Z2 H2 c2 => ?_⟩
    cases t with
    | false =>
      rw [if_neg Bool.false_ne_true] at h1 ⊢
      cases h1
      exact hf Z2 σ1 H2 c2
    | true =>
      rw [if_pos rfl] at h1 ⊢
      obtain ⟨⟨fb, Eb⟩, e3, h1⟩ := Option.bind_eq_some_iff.mp h1
      refine ⟨fun σ H => ∃ m', m' < m + 1 ∧ ∃ Z E, Cf G Z H σ E ts ∧ goWh ct cb m' E = some (f, E'), fun _ _ h => h, G, Z2, x.2, ts, fb, Eb, hK, c2, hs, e3, ?_⟩
      cases fb with
      | nx => exact fun Z' σ' H' c' => ⟨m, by omega, Z', Eb, c', h1⟩
      | cnt => exact fun Z' σ' H' c' => ⟨m, by omega, Z', Eb, c', h1⟩
      | brk => cases h1; exact hf
      | ret d => cases h1; exact hf
theorem s_fr {it : Env → Option (List D × Env)} {tg : Tg} {cb : SemS} (h : PS X st (tFor (tI X.K it) (gT X.K tg) (tS X.K cb))) : PS X st (tS X.K fun E => (it E).bind fun q => goFor cb tg q.1 q.2) := h.imp fun D σ H q => by
  obtain ⟨G, Z, E, ts, f, E', hK, c, hs, he, hf⟩ := q
  obtain ⟨⟨l, E1⟩, e1, he⟩ := Option.bind_eq_some_iff.mp he
  refine ⟨G, Z, E, ts, l, E1, hK, c, e1, fun Z1 H1 J hh c1 wk => ?_⟩
  have hsN : NoSl hh := fun i v hm => by
    obtain ⟨d, e⟩ := wk.frz _ _ hm
    cases e
  refine ⟨fun i m σ H => ∃ Z E, Cf G Z H σ E (hh ++ ts) ∧ goFor cb tg (l.drop i) E = some (f, E') ∧ m = l.length - i ∧ i ≤ l.length, ⟨_, Z1, E1, c1, he, rfl, Nat.zero_le _⟩, ?_⟩
  rintro i m σ2 H2 ⟨Z2, E2, c2, h2, rfl, hi⟩
  have held := Cf.held c2 wk.frz
  rw [hK.1] at held
  rcases Nat.lt_or_ge i l.length with lt | ge
  · refine .inr ⟨wk.go i Z2 H2 held lt, fun σ H => ∃ m', m' < l.length - i ∧ ∃ Z E, Cf G Z H σ E (hh ++ ts) ∧ goFor cb tg (l.drop (i + 1)) E = some (f, E') ∧ m' = l.length - (i + 1) ∧ i + 1 ≤ l.length, fun _ _ h => h, fun x H3 y => ?_⟩
    obtain ⟨sm, d, ed, rd⟩ := wk.yld i Z2 H2 x H3 held lt y
    have edr : l.drop i = d :: l.drop (i + 1) := by
      rw [List.drop_eq_getElem_cons lt]
      have : l[i] = d := (List.getElem?_eq_some_iff.mp ed).2
      rw [this]
    rw [edr] at h2
    simp only [goFor] at h2
    obtain ⟨Ea, ea, h2⟩ := Option.bind_eq_some_iff.mp h2
    obtain ⟨⟨fb, Eb⟩, e3, h2⟩ := Option.bind_eq_some_iff.mp h2
    rw [← hK.1] at rd
    refine ⟨G, Z2, E2, _, d, Ea, hK, (c2.ext sm).hold rd, hsN.app hs, ea, fun σ3 _ c3 => ⟨G, Z2, Ea, _, fb, Eb, hK, c3, hsN.app hs, e3, ?_⟩⟩
    cases fb with
    | nx => exact fun Z' σ' H' c' => ⟨_, by omega, Z', Eb, c', h2, rfl, lt⟩
    | cnt => exact fun Z' σ' H' c' => ⟨_, by omega, Z', Eb, c', h2, rfl, lt⟩
    | brk => cases h2; exact fun Z' σ' H' c' => hf Z' σ' H' c'.drop
    | ret d => cases h2; exact fun Z' σ' H' v c' => hf Z' σ' H' v (c'.subT (.sl (List.Sublist.cons_cons _ (List.sublist_append_right _ _))))
  · have ei : i = l.length := by omega
    have hd : l.drop i = [] := by rw [ei]; simp
    rw [hd] at h2
    cases h2
    exact .inl ⟨wk.stop i Z2 H2 held ge, hf Z2 σ2 H2 c2.drop⟩
end
end Fr
end
section
set_option linter.all false
set_option autoImplicit true
set_option maxRecDepth 100000
/-! Further rules. -/
namespace Fr
open PySem L2 PyProof.Rows
theorem _root_.L2.PW.imp {X : Cx} {e : Expr} {t t' : TT} (h : PW X e t) (i : ∀ σ H Q, t' σ H Q → t σ H Q) : PW X e t' := ⟨fun wh pins s σ H Q I q => h.run wh pins s σ H Q I (i σ H Q q)⟩
section
variable [PinM] {X : Cx} {K : PySem.W.Frag} {e a b c : Expr} {es : List Expr} {pos : Pos} {ca cb cc : Sem1} {cs : Sems}
noncomputable def sOp (f : D → D → Option D) (ca cb : Sem1) : Sem1 := fun E => (ca E).bind fun x => (cb x.2).bind fun y => appl (ap2 f) [x.1, y.1] y.2
omit [PinM] in
theorem _root_.L2.PT.tB_imp : True := trivial
theorem tb_te {c : Sem1} {σ : L2.St} {H : Hp} {Q : Bool → Hp → Prop} (q : tB' K c σ H Q) : tE K c σ H fun x H' => ∃ k, x = .bl k ∧ Q k H' := by
  obtain ⟨G, Z, E, ts, o, E', b, hK, c, he, hb, hq⟩ := q
  exact ⟨G, Z, E, ts, o, E', hK, c, he, fun Z1 H1 v c1 => ⟨b, c1.bool hb, hq Z1 H1 c1.tail⟩⟩
theorem op2_imp {f : D → D → Option D} {σ : L2.St} {H : Hp} {Q : VK} (q : tE K (sOp f ca cb) σ H Q) : tOp (rd2 f K) (tE K ca) (tE K cb) σ H Q := by
  obtain ⟨G, Z, E, ts, o, E', hK, c, he, hq⟩ := q
  obtain ⟨x, e1, he⟩ := Option.bind_eq_some_iff.mp he
  obtain ⟨y, e2, he⟩ := Option.bind_eq_some_iff.mp he
  refine ⟨G, Z, E, ts, x.1, x.2, hK, c, e1, fun Z1 H1 v1 c1 => ⟨G, Z1, x.2, _, y.1, y.2, hK, c1, e2, fun Z2 H2 v2 c2 => ?_⟩⟩
  rw [← hK.1]
  exact rd2_of (appl_ok (os := [x.1, y.1]) (vs := [v1, v2]) rfl (c2.perm (List.Perm.swap _ _ _)) he hq)
theorem r_opT {f : D → D → Option D} (h : PT X e (tTest (tOp (rd2 f X.K) (tE X.K ca) (tE X.K cb)))) : PT X e (tB' X.K (sOp f ca cb)) := h.imp fun σ H Q q => op2_imp (tb_te q)
noncomputable def sChn (f g : D → D → Option D) (ca cb cc : Sem1) : Sem1 := fun E => (ca E).bind fun x => (cb x.2).bind fun y => (when' (twice y.1) ()).bind fun _ => (appl (ap2 f) [x.1, y.1] y.2).bind fun r => (boolOf r.2 r.1).bind fun t =>
      if t = true then (cc r.2).bind fun z => appl (ap2 g) [y.1, z.1] z.2 else some (.v (.bl false), r.2)
theorem appl_pre {G : Gx} {Z : Adr → Prop} {H : Hp} {σ : L2.St} {E E' : Env} {ts us : Ts} {os : List Opd} {vs : List V} {f : List D → Option D} {o : Opd} {Q : VK} (hl : os.length = vs.length) (c : Cf G Z H σ E (os.zip vs ++ (us ++ ts))) (h : appl f os E = some (o, E'))
    (hq : ∀ Z' H' v, Cf G Z' H' σ E' ((o, v) :: (us ++ ts)) → Q v H') : rd f G.K vs H Q := appl_ok hl c h hq
mutual
theorem lf_fz : ∀ d : D, lf d = true → fz d = d
  | .non, _ => rfl | .bl _, _ => rfl | .int _, _ => rfl | .str _, _ => rfl
  | .tup ds, h => by simp only [fz]; rw [lfs_fz ds h]
  | .lst _ _, h => by cases h
  | .dic _ _ _, h => by cases h
theorem lfs_fz : ∀ ds : List D, lfs ds = true → fzs ds = ds
  | [], _ => rfl
  | d :: r, h => by
    simp only [lfs, Bool.and_eq_true] at h
    simp only [fzs]
    rw [lf_fz d h.1, lfs_fz r h.2]
end
/-- the middle operand is read twice: it is a slot or bears no list -/
theorem again {G : Gx} {Z : Adr → Prop} {H : Hp} {σ : L2.St} {E : Env} {ts : Ts} {o : Opd} {v : V} (c : Cf G Z H σ E ((o, v) :: ts)) (h : twice o = true) : Cf G Z H σ E ((o, v) :: (o, v) :: ts) := by
  cases o with
  | sl i => exact c.sl (c.sls i v (by simp))
  | v d =>
    have hd := Cf.held (hs := [(.v d, v)]) (ts := ts) c fun o w hm => by
      obtain ⟨rfl, rfl⟩ : o = .v d ∧ w = v := by simpa using hm
      exact ⟨d, by rw [lf_fz d h]⟩
    exact c.hold (held1 hd)
theorem chn_imp {f g : D → D → Option D} {σ : L2.St} {H : Hp} {Q : VK} (q : tE K (sChn f g ca cb cc) σ H Q) : tChain (rd2 f K) (rd2 g K) (tE K ca) (tE K cb) (tE K cc) σ H Q := by
  obtain ⟨G, Z, E, ts, o, E', hK, c, he, hq⟩ := q
  obtain ⟨x, e1, he⟩ := Option.bind_eq_some_iff.mp he
  obtain ⟨y, e2, he⟩ := Option.bind_eq_some_iff.mp he
  obtain ⟨_, ew, he⟩ := Option.bind_eq_some_iff.mp he
  have tw := (when_some ew).1
  obtain ⟨r, e3, he⟩ := Option.bind_eq_some_iff.mp he
  obtain ⟨t, e4, he⟩ := Option.bind_eq_some_iff.mp he
  refine ⟨G, Z, E, ts, x.1, x.2, hK, c, e1, fun Z1 H1 v1 c1 => ⟨G, Z1, x.2, _, y.1, y.2, hK, c1, e2, fun Z2 H2 v2 c2 => ?_⟩⟩
  rw [← hK.1]
  have c3 : Cf G Z2 H2 σ y.2 ([x.1, y.1].zip [v1, v2] ++ ((y.1, v2) :: ts)) := (again c2 tw).perm (by
    show List.Perm ((x.1, v1) :: (y.1, v2) :: (y.1, v2) :: ts) ((y.1, v2) :: (y.1, v2) :: (x.1, v1) :: ts)
    exact (List.Perm.swap _ _ _).trans (List.Perm.cons _ (List.Perm.swap _ _ _)))
  refine rd2_of (appl_ok (os := [x.1, y.1]) (vs := [v1, v2]) (o := r.1) (E' := r.2) rfl c3 e3 fun Z3 H3 v3 c4 => ⟨t, c4.bool e4, ?_⟩)
  cases t with
  | false =>
    rw [if_neg Bool.false_ne_true] at he ⊢
    cases he
    exact hq Z3 H3 _ (c4.tail.tail.bl _)
  | true =>
    rw [if_pos rfl] at he ⊢
    obtain ⟨z, e5, he⟩ := Option.bind_eq_some_iff.mp he
    rw [hK.1]
    refine ⟨G, Z3, r.2, _, z.1, z.2, hK, c4.tail, e5, fun Z4 H4 v4 c5 => ?_⟩
    rw [← hK.1]
    exact rd2_of (appl_ok (os := [y.1, z.1]) (vs := [v2, v4]) rfl (c5.perm (List.Perm.swap _ _ _)) he hq)
theorem r_chn {f g : D → D → Option D} (h : PE X e (tChain (rd2 f X.K) (rd2 g X.K) (tE X.K ca) (tE X.K cb) (tE X.K cc))) : PE X e (tE X.K (sChn f g ca cb cc)) := h.imp fun σ H Q q => chn_imp q
theorem r_chnT {f g : D → D → Option D} (h : PT X e (tTest (tChain (rd2 f X.K) (rd2 g X.K) (tE X.K ca) (tE X.K cb) (tE X.K cc)))) : PT X e (tB' X.K (sChn f g ca cb cc)) := h.imp fun σ H Q q => chn_imp (tb_te q)
/-! ### tests -/
theorem r_notT (h : PT X e (tNot (tB' X.K ca))) : PT X e (tB' X.K fun E => (ca E).bind fun x => (boolOf x.2 x.1).map fun b => (.v (.bl (!b)), x.2)) := h.imp fun σ H Q q => by
  obtain ⟨G, Z, E, ts, o, E', b, hK, c, he, hb, hq⟩ := q
  obtain ⟨x, e1, he⟩ := Option.bind_eq_some_iff.mp he
  obtain ⟨b', e2, he⟩ := Option.map_eq_some_iff.mp he
  cases he
  have hb' : some (!b') = some b := hb
  cases hb'
  exact ⟨G, Z, E, ts, x.1, x.2, b', hK, c, e1, e2, hq⟩
theorem r_andT (h : PW X e (tAnd (tB' X.K ca) (tB' X.K cb))) : PW X e (tB' X.K (sAnd ca cb)) := h.imp fun σ H Q q => by
  obtain ⟨G, Z, E, ts, o, E', b, hK, c, he, hb, hq⟩ := q
  obtain ⟨x, e1, he⟩ := Option.bind_eq_some_iff.mp he
  obtain ⟨t, e2, he⟩ := Option.bind_eq_some_iff.mp he
  refine ⟨G, Z, E, ts, x.1, x.2, t, hK, c, e1, e2, fun Z1 H1 c1 => ?_⟩
  cases t with
  | true =>
    obtain ⟨y, e3, he⟩ := Option.bind_eq_some_iff.mp he
    obtain ⟨u, e4, he⟩ := Option.map_eq_some_iff.mp he
    cases he
    have hb' : some u = some b := hb
    cases hb'
    exact ⟨G, Z1, x.2, ts, y.1, y.2, _, hK, c1, e3, e4, hq⟩
  | false =>
    cases he
    have hb' : some false = some b := hb
    cases hb'
    exact hq Z1 H1 c1
theorem r_orT (h : PW X e (tOr (tB' X.K ca) (tB' X.K cb))) : PW X e (tB' X.K (sOr ca cb)) := h.imp fun σ H Q q => by
  obtain ⟨G, Z, E, ts, o, E', b, hK, c, he, hb, hq⟩ := q
  obtain ⟨x, e1, he⟩ := Option.bind_eq_some_iff.mp he
  obtain ⟨t, e2, he⟩ := Option.bind_eq_some_iff.mp he
  refine ⟨G, Z, E, ts, x.1, x.2, t, hK, c, e1, e2, fun Z1 H1 c1 => ?_⟩
  cases t with
  | false =>
    obtain ⟨y, e3, he⟩ := Option.bind_eq_some_iff.mp he
    obtain ⟨u, e4, he⟩ := Option.map_eq_some_iff.mp he
    cases he
    have hb' : some u = some b := hb
    cases hb'
    exact ⟨G, Z1, x.2, ts, y.1, y.2, _, hK, c1, e3, e4, hq⟩
  | true =>
    cases he
    have hb' : some true = some b := hb
    cases hb'
    exact hq Z1 H1 c1
/-- only looked at: a test -/
theorem r_scT (h : PT X e (tB' X.K ca)) : PT X e (tB' X.K fun E => (ca (E.map (·.map fz))).bind fun x => match x.1 with
      | .v d => if nof d = true then some (.v d, E) else none
      | _ => none) := h.imp fun σ H Q q => by
  obtain ⟨G, Z, E, ts, o, E', b, hK, c, he, hb, hq⟩ := q
  obtain ⟨⟨ox, Ex⟩, e1, he⟩ := Option.bind_eq_some_iff.mp he
  cases ox with
  | sl i => cases he
  | v d =>
    have hn : nof d = true := by
      by_cases hn : nof d = true
      · exact hn
      · simp [hn] at he
    simp only [hn, if_true] at he
    cases he
    obtain ⟨O, h1, h2, h3⟩ := c.own
    obtain ⟨O1, O2, rfl, r1, r2⟩ := Cells.split h1
    have hd : ∀ p, Z p ∨ p ∈ O1 → ∃ o, H p = some o := fun p hp => by
      rcases hp with hp | hp
      · exact c.dom p hp
      · rcases Cells.own r1 p hp with ⟨_, e⟩ | ⟨_, e⟩ <;> exact ⟨_, e⟩
    let G' : Gx := { K := G.K, H0 := H, M := [], Z0 := fun p => Z p ∨ p ∈ O1, pins := [] }
    have c' : Cf G' (fun p => Z p ∨ p ∈ O1) H σ (E.map (·.map fz)) [] := by
      refine ⟨by simpa using c.len, ⟨[], ?_, List.nodup_nil, by simp⟩, by simp, fun p o e _ => e, hd, fun p z => .inl z, fun p z => z, by simp [G']⟩
      have := Cells.app (Cells.fz (Z' := fun p => Z p ∨ p ∈ O1) r1 (fun _ => .inl) fun _ => .inr) (b := []) (O' := []) rfl
      simpa [cells] using this
    refine ⟨G', _, _, [], .v d, Ex, b, ⟨hK.1, by simp [G']⟩, c', e1, hb, fun Z' H' c2 => ?_⟩
    have sm : Same H H' := fun p o e => c2.kp p o e (by simp [G'])
    exact hq Z H' (c.ext sm)
/-! ### slices -/
def tPartD (K : PySem.W.Frag) (c : Env → Option (Option Int × Env)) : TO := fun σ H Q => ∃ G Z E ts i E', GOk G K ∧ Cf G Z H σ E ts ∧ c E = some (i, E') ∧ ∀ Z' H', Cf G Z' H' σ E' ts → Q i H'
theorem _root_.L2.PO.imp {X : Cx} {e : Option Expr} {t t' : TO} (h : PO X e t) (i : ∀ σ H Q, t' σ H Q → t σ H Q) : PO X e t' := ⟨fun pins s σ H Q I q => h.run pins s σ H Q I (i σ H Q q)⟩
theorem part_none (h : PO X none tNoPart) : PO X none (tPartD X.K fun E => (some (Opd.v .non, E)).bind (asPart false)) := h.imp fun σ H Q q => by
  obtain ⟨G, Z, E, ts, i, E', hK, c, he, hq⟩ := q
  cases he
  exact hq Z H c
theorem part_some {x : Expr} (h : PO X (some x) (tPart (tE X.K ca))) : PO X (some x) (tPartD X.K fun E => (ca E).bind (asPart true)) := h.imp fun σ H Q q => by
  obtain ⟨G, Z, E, ts, i, E', hK, c, he, hq⟩ := q
  obtain ⟨x, e1, he⟩ := Option.bind_eq_some_iff.mp he
  obtain ⟨d, e2, he⟩ := Option.bind_eq_some_iff.mp he
  cases d <;> try contradiction
  cases he
  refine ⟨G, Z, E, ts, x.1, x.2, hK, c, e1, fun Z1 H1 v c1 => ?_⟩
  obtain ⟨_, _, r, _⟩ := Cf.frz1 c1 e2
  exact ⟨_, rep_int r, hq Z1 H1 c1.tail⟩
theorem r_sli {cl ch : Env → Option (Option Int × Env)} (h : PE X e (tSl (fun x lo hi H Q => rd1 (fsl lo hi) X.K x H Q) (tE X.K ca) (tPartD X.K cl) (tPartD X.K ch))) :
    PE X e (tE X.K fun E => (ca E).bind fun x => (cl x.2).bind fun y => (ch y.2).bind fun z => appl (ap1 (fsl y.1 z.1)) [x.1] z.2) := h.imp fun σ H Q q => by
  obtain ⟨G, Z, E, ts, o, E', hK, c, he, hq⟩ := q
  obtain ⟨x, e1, he⟩ := Option.bind_eq_some_iff.mp he
  obtain ⟨y, e2, he⟩ := Option.bind_eq_some_iff.mp he
  obtain ⟨z, e3, he⟩ := Option.bind_eq_some_iff.mp he
  refine ⟨G, Z, E, ts, x.1, x.2, hK, c, e1, fun Z1 H1 v c1 => ⟨G, Z1, x.2, _, y.1, y.2, hK, c1, e2, fun Z2 H2 c2 => ⟨G, Z2, y.2, _, z.1, z.2, hK, c2, e3, fun Z3 H3 c3 => ?_⟩⟩⟩
  rw [← hK.1]
  exact rd1_of (appl_ok (os := [x.1]) (vs := [v]) rfl c3 he hq)
/-! ### built-ins of their own forms -/
theorem r_isi {t : Ty} (h : PE X e (tCB (fun vs H Q => ∃ x, vs = [x, .ty (tyName t)] ∧ rd1 (b1 (.isi t)) X.K x H Q) (tCons (tE X.K ca) (tCons (tC (.ty (tyName t))) tNil)))) :
    PE X e (tE X.K fun E => (ca E).bind fun x => appl (ap1 (b1 (.isi t))) [x.1] x.2) := h.imp fun σ H Q q => by
  obtain ⟨G, Z, E, ts, o, E', hK, c, he, hq⟩ := q
  obtain ⟨x, e1, he⟩ := Option.bind_eq_some_iff.mp he
  refine ⟨G, Z, E, ts, x.1, x.2, hK, c, e1, fun Z1 H1 v c1 => ⟨v, rfl, ?_⟩⟩
  rw [← hK.1]
  exact rd1_of (appl_ok (os := [x.1]) (vs := [v]) rfl c1 he hq)
theorem r_lrev (h : PE X e (tLstRev X.K (tE X.K ca))) : PE X e (tE X.K fun E => (ca E).bind fun x => appl (ap1 (b1 .lrev)) [x.1] x.2) := h.imp fun σ H Q q => by
  obtain ⟨G, Z, E, ts, o, E', hK, c, he, hq⟩ := q
  obtain ⟨x, e1, he⟩ := Option.bind_eq_some_iff.mp he
  refine ⟨G, Z, E, ts, x.1, x.2, hK, c, e1, fun Z1 H1 v c1 => ?_⟩
  obtain ⟨Z2, d, r, hr, _, hf, hq2⟩ := rd1_of (appl_ok (os := [x.1]) (vs := [v]) rfl c1 he hq)
  cases d <;> try contradiction
  cases hf
  obtain ⟨p, vs, rfl, hp, hl⟩ := rep_lst hr
  exact ⟨p, vs, rfl, .inl hp, fun q hq' => doneL hq2 hl.rev_ hq'⟩
theorem appl_fb {f : Blt} {o : Opd} {E : Env} : appl (fb f) [o] E = appl (ap1 (b1 f)) [o] E := by
  unfold appl
  simp only [fetch]
  cases fetch1 E o <;> rfl
/-! ### keywords -/
theorem k_nil (h : PK X [] tNil) : PK X [] (tEs X.K fun E => some ([], E)) := h.imp fun σ H Q q => by
  obtain ⟨G, Z, E, ts, o, E', hK, c, he, hq⟩ := q
  cases he
  exact hq Z H [] rfl c
theorem k_cons {kw : Keyword} {ks : List Keyword} {cs : Sems} (h : ∀ u, PK X ks u → PK X (kw :: ks) (tCons (tE X.K ca) u)) (hr : PK X ks (tEs X.K cs)) :
    PK X (kw :: ks) (tEs X.K fun E => (ca E).bind fun x => (cs x.2).map fun y => (x.1 :: y.1, y.2)) := (h _ hr).imp fun σ H Q q => by
  obtain ⟨G, Z, E, ts, o, E', hK, c, he, hq⟩ := q
  obtain ⟨x, e1, he⟩ := Option.bind_eq_some_iff.mp he
  obtain ⟨y, e2, he⟩ := Option.map_eq_some_iff.mp he
  cases he
  refine ⟨G, Z, E, ts, x.1, x.2, hK, c, e1, fun Z1 H1 v1 c1 => ⟨G, Z1, x.2, _, y.1, y.2, hK, c1, e2, fun Z2 H2 vs hl c2 => ?_⟩⟩
  exact hq Z2 H2 (v1 :: vs) (by simp [hl]) (c2.perm (List.perm_middle.symm))
/-! ### range -/
theorem i_rngN {tg : Expr} {n : Nat} (h1 : ∀ t, PA X es t → PI X tg e (fun σ H R => (n = 1 ∧ iRng1 t σ H R) ∨ (n = 2 ∧ iRng2 t σ H R))) (hn : ∀ E os E', cs E = some (os, E') → os.length = n) (ha : PA X es (tEs X.K cs)) :
    PI X tg e (tI X.K fun E => (cs E).bind fun x => (fetch x.2 x.1).bind fun ds => (frng ds).map fun l => (l, x.2)) := (h1 _ ha).imp fun σ H R q => by
  obtain ⟨G, Z, E, ts, l, E', hK, c, he, hq⟩ := q
  obtain ⟨x, e1, he⟩ := Option.bind_eq_some_iff.mp he
  obtain ⟨ds, e2, he⟩ := Option.bind_eq_some_iff.mp he
  obtain ⟨l', e3, he⟩ := Option.map_eq_some_iff.mp he
  cases he
  have hl := hn _ _ _ e1
  have hd := fetch_len e2
  unfold frng at e3
  split at e3
  · rename_i j
    obtain ⟨cc, rfl⟩ := when_some e3
    simp only [okRng, Bool.and_eq_true, decide_eq_true_eq] at cc
    refine .inl ⟨by simpa [← hl] using hd, G, Z, E, ts, x.1, x.2, hK, c, e1, fun Z1 H1 vs hl c1 => ?_⟩
    obtain ⟨Z2, _, r, _, _⟩ := Cf.frzs hl c1 e2
    obtain ⟨v, ws, O1, O2, rfl, _, r1, r2⟩ := r
    have : ws = [] := r2.1
    subst this
    refine ⟨j, by rw [rep_int r1], cc.1, cc.2, ?_⟩
    exact hq Z1 H1 _ [] (c1.drop) wk_rng
  · rename_i i j
    obtain ⟨cc, rfl⟩ := when_some e3
    simp only [okRng, Bool.and_eq_true, decide_eq_true_eq] at cc
    refine .inr ⟨by simpa [← hl] using hd, G, Z, E, ts, x.1, x.2, hK, c, e1, fun Z1 H1 vs hl c1 => ?_⟩
    obtain ⟨Z2, _, r, _, _⟩ := Cf.frzs hl c1 e2
    obtain ⟨v, ws, O1, O2, rfl, _, r1, v2, ws2, O3, O4, rfl, _, r3, r4⟩ := r
    have : ws2 = [] := r4.1
    subst this
    refine ⟨i, j, by rw [rep_int r1, rep_int r3], ⟨cc.1.1, cc.1.2, cc.2.1, cc.2.2⟩, ?_⟩
    exact hq Z1 H1 _ [] (c1.drop) wk_rng
  · cases e3
/-! ### the minus sign -/
def fNeg : D → Option D := fun d => match d with | .int i => some (.int (-i)) | _ => none
theorem ur_neg : UnR X (unaryOp .USub) (rd1 fNeg X.K) := by
  intro pins s σ H x v Q I rx h
  obtain ⟨Z, a, r, ha, hz, hf, hq⟩ := h
  cases a <;> try contradiction
  cases hf
  exact un_neg pins s σ H x v Q I rx ⟨_, rep_int ha, done0 hq ⟨rfl, rfl⟩⟩
end
end Fr
end
section
set_option linter.all false
set_option autoImplicit true
set_option maxRecDepth 100000
/-! The match of the small language with the program. -/
namespace Fr
open PySem L2 PyProof.Rows
structure Sx where
  N : List Str
  sc : Scope
  fnm : Str → Bool
  ds : List Df
  gls : List (Str × D)
  pin : List Nat
def psOf (d : Df) : List Str := d.ns.take d.np
def vis (S : Sx) (x : Str) : Bool := match S.sc.names.lookup x with
  | some .local => true
  | some .cell => true
  | some .free => true
  | _ => false
def glo (S : Sx) (x : Str) : Bool := decide (S.sc.names.lookup x = some .globalImplicit) && !(x == ("__debug__" : Str))
def nameOk (S : Sx) (i : Nat) (x : Str) : Bool := decide (S.N[i]? = some x) && vis S x && !(x == ("__debug__" : Str)) && !(x == ("__classdict__" : Str))
def storeOk (S : Sx) (i : Nat) (x : Str) : Bool := decide (S.N[i]? = some x) && (decide (S.sc.names.lookup x = some .local) || (decide (S.sc.names.lookup x = some .cell) && S.fnm x)) && !decide (i ∈ S.pin)
def Sx.blk (S : Sx) (scope : Scope) : Sx := { S with sc := relS scope S.sc, fnm := fun x => scope.names.lookup x == some .cell }
def deq : D → D → Bool
  | .non, .non => true
  | .bl a, .bl b => a == b
  | .int a, .int b => decide (a = b)
  | .str a, .str b => decide (a = b)
  | _, _ => false
def conOk (S : Sx) (d : D) : Expr → Bool
  | .Constant (.int i) _ _ => deq (.int i) d
  | .Constant (.bool b) _ _ => deq (.bl b) d
  | .Constant .none _ _ => deq .non d
  | .Constant (.str x) _ _ => deq (.str x) d
  | .Name x _ => glo S x && S.gls.any fun q => decide (q.1 = x) && deq q.2 d
  | _ => false
def notStar : Expr → Bool
  | .Starred .. => false
  | _ => true
def pvT : Expr → Bool
  | .UnaryOp .Not .. => false
  | .BoolOp .. => false
  | .IfExp .. => false
  | .Compare .. => false
  | _ => true
def isBo : Expr → Bool
  | .BoolOp .. => true
  | _ => false
def plainIx : Expr → Bool
  | .Slice .. => false
  | _ => true
def notSet : Expr → Bool
  | .Set .. => false
  | _ => true
def binOk : Op2 → Operator → Bool
  | .add, .Add => true
  | .sub, .Sub => true
  | .mul, .Mult => true
  | .fdiv, .FloorDiv => true
  | .mod, .Mod => true
  | .pow, .Pow => true
  | _, _ => false
def cmpOk : Op2 → CmpOp → Bool
  | .eq, .Eq => true
  | .ne, .NotEq => true
  | .lt, .Lt => true
  | .le, .LtE => true
  | .gt, .Gt => true
  | .ge, .GtE => true
  | .isN, .Is => true
  | .notN, .IsNot => true
  | _, _ => false
def bname : Blt → Option Str
  | .len => some "len"
  | .abs => some "abs"
  | .int => some "int"
  | .min => some "min"
  | .max => some "max"
  | .sum => some "sum"
  | .repr => some "repr"
  | .tuple => some "tuple"
  | .list => some "list"
  | _ => none
def tyS : Ty → Str
  | .int => "int" | .bool => "bool" | .str => "str" | .list => "list" | .tuple => "tuple" | .dict => "dict"
def isNonEx : Ex → Bool
  | .con .non => true
  | _ => false
def isYes : Ex → Bool
  | .con (.bl true) => true
  | _ => false
def kwOk (ps : List Str) (n : Nat) (ks : List Nat) (kws : List Keyword) : Bool :=
  decide (ps.length = n + ks.length) && decide ks.Nodup && (List.range ks.length).all (fun j => decide (n + j ∈ ks)) && ks.all (fun t => decide (n ≤ t ∧ t < ps.length)) && decide (kws.map (·.arg) = ks.map fun t => some (ps.getD t ⟨#[]⟩))
def ownL (S : Sx) (own : List Nat) : List (Str × Nat) := own.map fun i => (S.N.getD i ⟨#[]⟩, i)
def blkOk (S : Sx) (scope : Scope) (own : List Nat) (tg : Tg) : Bool :=
  decide (scope.kind = .function) && scope.names.all (fun y => decide (scope.names.lookup y.1 = some y.2)) && own.all (fun i => decide (i < S.N.length)) &&
  scope.names.all (fun y => !decide (y.2 = .free) || decide (S.sc.names.lookup y.1 = some .cell) || decide (S.sc.names.lookup y.1 = some .free)) &&
  scope.names.all (fun y => !(decide (y.2 = .local) || decide (y.2 = .cell)) || own.any (fun i => decide (S.N.getD i ⟨#[]⟩ = y.1)) || !decide (y.1 ∈ S.N)) &&
  decide own.Nodup && (tgs tg).all (fun i => decide (i ∈ own)) && own.all (fun i => !decide (i ∈ S.pin))
def tgOk (S : Sx) : Tg → Expr → Bool
  | .nm i, .Name x _ => storeOk S i x
  | .tp l, .Tuple es _ _ => go l es
  | _, _ => false
where
  go : List Nat → List Expr → Bool
    | [], [] => true
    | i :: l, .Name x _ :: es => storeOk S i x && go l es
    | _, _ => false
mutual
def ck : Ex → Sx → Bool → Expr → Bool
  | .var i, S, t, e => match e with
    | .Name x _ => nameOk S i x
    | _ => false
  | .con d, S, t, e => conOk S d e
  | .glo _, _, _, _ => false
  | .op o a b, S, t, e => match e with
    | .BinOp x op y _ => !t && binOk o op && ck a S false x && ck b S false y
    | .Compare x [op] [y] _ => cmpOk o op && ck a S false x && ck b S false y
    | _ => false
  | .chn o o' a b c, S, t, e => match e with
    | .Compare x [op, op'] [y, z] _ => cmpOk o op && cmpOk o' op' && ck a S false x && ck b S false y && ck c S false z
    | _ => false
  | .neg a, S, t, e => match e with
    | .UnaryOp .USub x _ => ck a S false x
    | _ => false
  | .nt a, S, t, e => match e with
    | .UnaryOp .Not x _ => ck a S t x
    | _ => false
  | .an a b, S, t, e => match e with
    | .BoolOp .And [x, y] _ => ck a S t x && ck b S t y
    | .BoolOp .And (x :: y :: z :: r) p => ck a S t x && ck b S t (.BoolOp .And (y :: z :: r) p)
    | _ => false
  | .or a b, S, t, e => match e with
    | .BoolOp .Or [x, y] _ => ck a S t x && ck b S t y
    | .BoolOp .Or (x :: y :: z :: r) p => ck a S t x && ck b S t (.BoolOp .Or (y :: z :: r) p)
    | _ => false
  | .ife c a b, S, t, e => match e with
    | .IfExp z x y _ => !t && ck c S true z && ck a S false x && ck b S false y
    | _ => false
  | .lrev a, S, t, e => match e with
    | .Call (.Name l _) [.Call (.Name r _) [x] [] _] [] _ => decide (l = "list") && decide (r = "reversed") && glo S l && glo S r && notStar x && ck a S false x
    | _ => false
  | .isi ty a, S, t, e => match e with
    | .Call (.Name l _) [x, .Name r _] [] _ => decide (l = "isinstance") && decide (r = tyS ty) && glo S l && glo S r && notStar x && ck a S false x
    | _ => false
  | .blt f as, S, t, e => match e with
    | .Call (.Name n _) (x :: xs) [] _ => decide (bname f = some n) && glo S n && cks as S (x :: xs)
    | _ => false
  | .call f m as, S, t, e => match e with
    | .Call (.Name n _) (x :: xs) [] _ => (match S.ds[f]? with
        | some d => decide (d.nm = n) && decide (d.m = m)
        | none => false) && glo S n && cks as S (x :: xs)
    | _ => false
  | .callK f m as ks bs, S, t, e => match e with
    | .Call (.Name n _) xs kws _ => (match S.ds[f]? with
        | some d => decide (d.nm = n) && decide (d.m = m) && kwOk (psOf d) xs.length ks kws
        | none => false) && glo S n && cks as S xs && ckk bs S kws
    | _ => false
  | .tup es, S, t, e => match e with
    | .Tuple xs _ _ => decide (xs.length ≤ 1000) && cks es S xs
    | _ => false
  | .lst es, S, t, e => match e with
    | .List xs _ => decide (xs.length ≤ 1000) && cks es S xs
    | _ => false
  | .dic ks ds, S, t, e => match e with
    | .Dict [] [] _ => ks.isEmpty && ds.isEmpty
    | .Dict [some (.Constant (.int i) _ _)] [.Constant (.int j) _ _] _ => (match ks, ds with
        | [.inl i'], [.int j'] => decide (i = i') && decide (j = j')
        | _, _ => false)
    | _ => false
  | .ix a i, S, t, e => match e with
    | .Subscript x y _ => plainIx y && ck a S false x && ck i S false y
    | _ => false
  | .sli l h a lo hi, S, t, e => match e with
    | .Subscript x (.Slice lo' hi' none _) _ => ck a S false x && (match lo' with
        | none => !l && isNonEx lo
        | some y => l && ck lo S false y) && (match hi' with
        | none => !h && isNonEx hi
        | some y => h && ck hi S false y)
    | _ => false
  | .rev a, S, t, e => match e with
    | .Subscript x (.Slice none none (some (.UnaryOp .USub (.Constant (.int k) _ _) _)) _) _ => decide (k = 1) && ck a S false x
    | _ => false
  | .comp own tg it c v, S, t, e => match e with
    | .ListComp elt [⟨tg', iter, ifs, as⟩] scope _ => decide (as = 0) && blkOk S scope own tg && ckI it S tg' iter && notSet iter && tgOk (S.blk scope) tg tg' && (match ifs with
        | [] => isYes c
        | [z] => ck c (S.blk scope) true z
        | _ => false) && ck v (S.blk scope) false elt
    | _ => false
  | .app i a, S, t, e => match e with
    | .Call (.Attribute (.Name x _) m apos) [y] [] cpos => decide (m = "append") && nameOk S i x && (apos.endLine == cpos.line) && notStar y && ck a S false y
    | _ => false
  | .popL i, S, t, e => match e with
    | .Call (.Attribute (.Name x _) m apos) [] [] cpos => decide (m = "pop") && nameOk S i x && (apos.endLine == cpos.line)
    | _ => false
  | .popA i j, S, t, e => match e with
    | .Call (.Attribute (.Subscript (.Name x _) (.Constant (.int k) _ _) _) m apos) [] [] cpos => decide (m = "pop") && decide (k = (j : Int)) && nameOk S i x && (apos.endLine == cpos.line)
    | _ => false
  | .sc a, S, t, e => ck a S t e && !isBo e
def cks : Exs → Sx → List Expr → Bool
  | .nil, _, xs => xs.isEmpty
  | .cons a r, S, xs => match xs with
    | x :: xs => notStar x && ck a S false x && cks r S xs
    | [] => false
def ckk : Exs → Sx → List Keyword → Bool
  | .nil, _, xs => xs.isEmpty
  | .cons a r, S, xs => match xs with
    | ⟨n, x, _⟩ :: xs => n.isSome && ck a S false x && ckk r S xs
    | [] => false
def ckI : It → Sx → Expr → Expr → Bool
  | .seq a, S, tg, e => ck a S false e
  | .rng as, S, tg, e => match e with
    | .Call (.Name n _) xs [] _ => decide (n = "range") && glo S n && cks as S xs && decide (xs.length = 1 ∨ xs.length = 2)
    | _ => false
  | .enu a, S, tg, e => match tg, e with
    | .Tuple _ _ _, .Call (.Name n _) [x] [] _ => decide (n = "enumerate") && glo S n && notStar x && ck a S false x
    | _, _ => false
  | .rev a, S, tg, e => match e with
    | .Call (.Name n _) [x] [] _ => decide (n = "reversed") && glo S n && notStar x && ck a S false x
    | _ => false
end
end Fr
end
section
set_option linter.all false
set_option autoImplicit true
set_option maxRecDepth 100000
/-! The match is sound: what the rules want. -/
namespace Fr
open PySem L2 PyProof.Rows
def bnames : List Str := ["len", "abs", "int", "min", "max", "sum", "repr", "tuple", "list", "reversed", "isinstance", "range", "enumerate", "bool", "str", "dict"]
structure XOk [PinM] (F : Calls) (n : Nat) (S : Sx) (X : Cx) : Prop where
  calm : X.calm = true
  N : X.N = S.N
  nd : X.N.Nodup
  sc : X.env.scope = S.sc
  fn : ∀ x, S.fnm x = true → X.fn x = true
  gd : X.A.guards = some []
  rm : Room n X.A
  sys : ∃ o, X.base.get? sysModules = some o
  pin : PinM.m = S.pin
  fns : ∀ i d, S.ds[i]? = some d → ∃ f fd, X.mg d.nm = some (.ref f) ∧ PySem.W.keepIn X.K (.ref f) = true ∧ Plain fd (psOf d) ∧ FnG X.prog X.w X.K X.mg X.base n f fd (psOf d) (spD (F i) d.m X.K)
  nob : ∀ x ∈ bnames, X.mg x = none
  gls : ∀ q ∈ S.gls, ∃ v u, X.mg q.1 = some u ∧ RelV v u ∧ ∀ K Z H, Rep K Z H q.2 v []
section
variable [PinM] {F : Calls} {n : Nat} {S : Sx} {X : Cx} {e : Expr}
theorem XOk.blk (k : XOk F n S X) (s : Shared) (H : Hp) (scope : Scope) (C : Addr) (cl : List (Str × Addr)) (fp : List Addr) : XOk F n (S.blk scope) (X.blk s H scope (compEnvC scope cl C X.env) fp) :=
  ⟨k.calm, k.N, k.nd, by
    show relS scope X.env.scope = relS scope S.sc
    rw [k.sc], fun x h => h, k.gd, k.rm, k.sys, k.pin, k.fns, k.nob, k.gls⟩
theorem XOk.un (k : XOk F n S X) : X.A.units + 64 < cLine := by have := k.rm.un; omega
theorem gl_of (k : XOk F n S X) {x : Str} (h : glo S x = true) : Gl X x ∧ (x == ("__debug__" : Str)) = false := by
  unfold glo at h
  simp only [Bool.and_eq_true, decide_eq_true_eq, Bool.not_eq_true'] at h
  refine ⟨?_, h.2⟩
  show X.env.scope.names.lookup x = _
  rw [k.sc]; exact h.1
theorem name_of (k : XOk F n S X) {i : Nat} {x : Str} (h : nameOk S i x = true) : X.N[i]? = some x ∧ Vis X.env.scope x ∧ (x == ("__debug__" : Str)) = false ∧ (x == ("__classdict__" : Str)) = false := by
  unfold nameOk at h
  simp only [Bool.and_eq_true, decide_eq_true_eq, Bool.not_eq_true'] at h
  refine ⟨by rw [k.N]; exact h.1.1.1, ?_, h.1.2, h.2⟩
  have hv := h.1.1.2
  unfold Vis
  rw [k.sc]
  unfold vis at hv
  split at hv
  · rename_i e; exact .inl e
  · rename_i e; exact .inr (.inl e)
  · rename_i e; exact .inr (.inr e)
  · cases hv
theorem pe_nm (k : XOk F n S X) {i : Nat} {x : Str} {p : Pos} (h : nameOk S i x = true) : PE X (.Name x p) (tVar i) := by
  obtain ⟨h1, h2, h3, h4⟩ := name_of k h
  exact pe_var h1 h2 h3 h4
theorem store_of (k : XOk F n S X) {i : Nat} {x : Str} (h : storeOk S i x = true) : X.N[i]? = some x ∧ L2.Loc X.env.scope x ∧ (X.fn x = true ∨ X.env.scope.names.lookup x = some .local) ∧ i ∉ PinM.m := by
  unfold storeOk at h
  simp only [Bool.and_eq_true, Bool.or_eq_true, decide_eq_true_eq, Bool.not_eq_true', decide_eq_false_iff_not] at h
  obtain ⟨⟨h1, h2⟩, h3⟩ := h
  refine ⟨by rw [k.N]; exact h1, ?_, ?_, by rw [k.pin]; exact h3⟩
  · unfold L2.Loc; rw [k.sc]; exact h2.imp id fun q => q.1
  · rw [k.sc]
    rcases h2 with q | q
    · exact .inr q
    · exact .inl (k.fn x q.2)
theorem pg_nm (k : XOk F n S X) {i : Nat} {x : Str} {p : Pos} (h : storeOk S i x = true) : PG X (.Name x p) (gName i) := by
  obtain ⟨h1, h2, h3, h4⟩ := store_of k h
  exact pg_name k.nd h1 h2 h3
/-! ### lists of arguments -/
theorem star_of {e : Expr} {es : List Expr} {env : PySem.Env} (h : notStar e = true) : starEach (e :: es) env = (false, eval e env) :: starEach es env := by
  cases e with
  | Starred _ _ => cases h
  | _ => rfl
theorem star_any : ∀ {es : List Expr} {env : PySem.Env} {pos : Pos}, (∀ e ∈ es, notStar e = true) → (backTo pos (starEach es env)).any (·.1) = false
  | [], _, _, _ => rfl
  | e :: es, env, pos, h => by
    have ih := star_any (env := env) (pos := pos) fun x hx => h x (List.mem_cons_of_mem _ hx)
    rw [star_of (h e (by simp))]
    simpa [backTo] using ih
theorem kw_names {pos : Pos} : ∀ {kws : List Keyword} {env : PySem.Env}, (backToKw pos (keywordEach kws env)).map (·.1) = kws.map (·.arg)
  | [], _ => rfl
  | ⟨n, v, p⟩ :: r, env => by
    have ih := kw_names (pos := pos) (kws := r) (env := env)
    simp only [keywordEach, backToKw, List.map_cons] at ih ⊢
    rw [ih]
/-! ### what is a value, what a test -/
def Snd (X : Cx) (e : Expr) (t : Bool) (c : Sem1) : Prop := match t with
  | false => PE X e (tE X.K c)
  | true => PT X e (tB' X.K c) ∧ (isBo e = true → PW X e (tB' X.K c))
theorem truth_of {e : Expr} {env : PySem.Env} (h : pvT e = true) : ∀ whole, isTrue e env whole = (do let v ← whole; standAt e.pos; holding [v] (truthy v)) := by
  intro whole
  cases e with
  | UnaryOp op _ _ =>
    cases op with
    | Not => cases h
    | _ => rfl
  | BoolOp => cases h
  | IfExp => cases h
  | Compare => cases h
  | _ => rfl
theorem bo_of {e : Expr} (h : pvT e = true) : isBo e = false := by
  cases e with
  | BoolOp => cases h
  | _ => rfl
theorem Snd.of {t : Bool} {c : Sem1} (h : PE X e (tE X.K c)) (hp : pvT e = true) : Snd X e t c := by
  cases t with
  | false => exact h
  | true => exact ⟨r_test (fun t ht => pt_val ht (truth_of hp)) h, fun hb => by rw [bo_of hp] at hb; cases hb⟩
theorem Snd.pe {c : Sem1} (h : Snd X e false c) : PE X e (tE X.K c) := h
theorem Snd.pt {c : Sem1} (h : Snd X e true c) : PT X e (tB' X.K c) := h.1
/-! ### constants -/
theorem deq_eq : ∀ {a b : D}, deq a b = true → a = b := by
  intro a b h
  cases a <;> cases b <;> simp [deq] at h <;> first | rfl | (rw [h])
theorem con_ok (k : XOk F n S X) {d : D} {t : Bool} (h : conOk S d e = true) : Snd X e t (fun E => some (.v d, E)) := by
  unfold conOk at h
  split at h
  · have := deq_eq h; subst this; exact Snd.of (r_con pe_int fun _ _ _ => ⟨rfl, rfl⟩) rfl
  · have := deq_eq h; subst this; exact Snd.of (r_con pe_bl fun _ _ _ => ⟨rfl, rfl⟩) rfl
  · have := deq_eq h; subst this; exact Snd.of (r_con pe_non fun _ _ _ => ⟨rfl, rfl⟩) rfl
  · have := deq_eq h; subst this; exact Snd.of (r_con pe_str fun _ _ _ => ⟨rfl, rfl⟩) rfl
  · rename_i x p
    simp only [Bool.and_eq_true, List.any_eq_true, decide_eq_true_eq] at h
    obtain ⟨hg, q, hq, rfl, hd⟩ := h
    have := deq_eq hd
    subst this
    obtain ⟨v, u, hm, r, hr⟩ := k.gls q hq
    obtain ⟨g1, g2⟩ := gl_of k hg
    exact Snd.of (r_con (pe_glob g1 hm r g2) hr) rfl
  · cases h
/-! ### operators -/
theorem bin_ok (k : XOk F n S X) {o : Op2} {op : Operator} (h : binOk o op = true) : OpR X (binaryOp op) (rd2 (f2 o) X.K) := by
  unfold binOk at h
  split at h
  · exact or_add
  · exact or_sub
  · exact or_mul
  · exact or_fdiv
  · exact or_mod
  · exact or_pow
  · cases h
theorem cmp_ok (k : XOk F n S X) {o : Op2} {op : CmpOp} (h : cmpOk o op = true) : OpR X (compareOp op) (rd2 (f2 o) X.K) ∧ op ≠ .In ∧ op ≠ .NotIn := by
  unfold cmpOk at h
  split at h
  · exact ⟨or_eq k.un, by decide, by decide⟩
  · exact ⟨or_ne k.un, by decide, by decide⟩
  · exact ⟨or_lt, by decide, by decide⟩
  · exact ⟨or_le, by decide, by decide⟩
  · exact ⟨or_gt, by decide, by decide⟩
  · exact ⟨or_ge, by decide, by decide⟩
  · exact ⟨or_is, by decide, by decide⟩
  · exact ⟨or_isnot, by decide, by decide⟩
  · cases h
theorem last_ok {op op' : CmpOp} {b c : Expr} (h : op' ≠ .In) (h2 : op' ≠ .NotIn) : lastMarks [op, op'] [b, c] = false := nomark c h h2
/-! ### built-ins -/
theorem blt_ok (k : XOk F n S X) {f : Blt} {nm : Str} {x : Expr} {xs : List Expr} {p pos : Pos} {cs : Sems} (hb : bname f = some nm) (hg : glo S nm = true) (ha : PA X (x :: xs) (tEs X.K cs)) (hs : ∀ e ∈ x :: xs, notStar e = true) :
    PE X (.Call (.Name nm p) (x :: xs) [] pos) (tE X.K fun E => (cs E).bind fun x => appl (fb f) x.1 x.2) := by
  obtain ⟨g1, g2⟩ := gl_of k hg
  have s1 := star_of (es := xs) (env := X.env) (hs x (by simp))
  have s2 := star_any (env := X.env) (pos := pos) fun e he => hs e (List.mem_cons_of_mem _ he)
  cases f <;> first | cases hb | skip
  · exact r_blt (fun t ht => pe_callB cr_len g1 (k.nob _ (by decide +kernel)) (by decide +kernel) ht (by decide) (by decide) s1 s2) ha
  · exact r_blt (fun t ht => pe_callB cr_abs g1 (k.nob _ (by decide +kernel)) (by decide +kernel) ht (by decide) (by decide) s1 s2) ha
  · exact r_blt (fun t ht => pe_callTy cr_int g1 (k.nob _ (by decide +kernel)) (by decide +kernel) ht (by decide) (by decide) s1 s2) ha
  · exact r_blt (fun t ht => pe_callB (cr_min2 k.calm) g1 (k.nob _ (by decide +kernel)) (by decide +kernel) ht (by decide) (by decide) s1 s2) ha
  · exact r_blt (fun t ht => pe_callB (cr_max2 k.calm) g1 (k.nob _ (by decide +kernel)) (by decide +kernel) ht (by decide) (by decide) s1 s2) ha
  · exact r_blt (fun t ht => pe_callB (cr_sumD k.calm) g1 (k.nob _ (by decide +kernel)) (by decide +kernel) ht (by decide) (by decide) s1 s2) ha
  · exact r_blt (fun t ht => pe_callB (cr_repr k.sys k.gd k.un) g1 (k.nob _ (by decide +kernel)) (by decide +kernel) ht (by decide) (by decide) s1 s2) ha
  · exact r_blt (fun t ht => pe_callTy cr_tuple g1 (k.nob _ (by decide +kernel)) (by decide +kernel) ht (by decide) (by decide) s1 s2) ha
  · exact r_blt (fun t ht => pe_callTy cr_list g1 (k.nob _ (by decide +kernel)) (by decide +kernel) ht (by decide) (by decide) s1 s2) ha
theorem isi_ok (k : XOk F n S X) {ty : Ty} {x : Expr} {p p2 pos : Pos} {ca : Sem1} (hg : glo S "isinstance" = true) (hg2 : glo S (tyS ty) = true) (ha : PE X x (tE X.K ca)) (hs : notStar x = true) :
    PE X (.Call (.Name "isinstance" p) [x, .Name (tyS ty) p2] [] pos) (tE X.K fun E => (ca E).bind fun x => appl (ap1 (b1 (.isi ty))) [x.1] x.2) := by
  obtain ⟨g1, _⟩ := gl_of k hg
  obtain ⟨g2, _⟩ := gl_of k hg2
  have s1 := star_of (es := [.Name (tyS ty) p2]) (env := X.env) hs
  have pt : PE X (.Name (tyS ty) p2) (tC (.ty (tyName ty))) := by
    cases ty
    · exact pe_bltn (u := .type "int") g2 (k.nob _ (by decide +kernel)) (by decide +kernel) rfl (by decide) (by decide)
    · exact pe_bltn (u := .type "bool") g2 (k.nob _ (by decide +kernel)) (by decide +kernel) rfl (by decide) (by decide)
    · exact pe_bltn (u := .type "str") g2 (k.nob _ (by decide +kernel)) (by decide +kernel) rfl (by decide) (by decide)
    · exact pe_bltn (u := .type "list") g2 (k.nob _ (by decide +kernel)) (by decide +kernel) rfl (by decide) (by decide)
    · exact pe_bltn (u := .type "tuple") g2 (k.nob _ (by decide +kernel)) (by decide +kernel) rfl (by decide) (by decide)
    · exact pe_bltn (u := .type "dict") g2 (k.nob _ (by decide +kernel)) (by decide +kernel) rfl (by decide) (by decide)
  exact r_isi (pe_callB (cr_isi ty) g1 (k.nob _ (by decide +kernel)) (by decide +kernel) (pa_cons ha (pa_cons pt pa_nil rfl) s1) (by decide) (by decide) s1 rfl)
theorem lrev_ok (k : XOk F n S X) {x : Expr} {p p2 pos pos2 : Pos} {ca : Sem1} (hg : glo S "list" = true) (hg2 : glo S "reversed" = true) (ha : PE X x (tE X.K ca)) (hs : notStar x = true) :
    PE X (.Call (.Name "list" p) [.Call (.Name "reversed" p2) [x] [] pos2] [] pos) (tE X.K fun E => (ca E).bind fun x => appl (ap1 (b1 .lrev)) [x.1] x.2) :=
  r_lrev (pe_lstRev k.calm (gl_of k hg).1 (k.nob _ (by decide +kernel)) (gl_of k hg2).1 (k.nob _ (by decide +kernel)) ha (star_of hs) rfl)
/-! ### calls -/
theorem call_okk (k : XOk F n S X) {f : Nat} {d : Df} {x : Expr} {xs : List Expr} {p pos : Pos} {cs : Sems} (hd : S.ds[f]? = some d) (hg : glo S d.nm = true) (ha : PA X (x :: xs) (tEs X.K cs)) (hs : ∀ e ∈ x :: xs, notStar e = true) :
    PE X (.Call (.Name d.nm p) (x :: xs) [] pos) (tE X.K fun E => (cs E).bind fun x => callF F f d.m x.1 x.2) := by
  obtain ⟨g1, g2⟩ := gl_of k hg
  obtain ⟨a, fd, m1, m2, m3, m4⟩ := k.fns f d hd
  exact r_call m4 m3 k.rm k.gd g1 m1 m2 ha g2 (star_of (hs x (by simp))) fun pos => star_any fun e he => hs e (List.mem_cons_of_mem _ he)
theorem callk_okk (k : XOk F n S X) {f : Nat} {d : Df} {xs : List Expr} {kws : List Keyword} {ks : List Nat} {p pos : Pos} {cs cks : Sems} (hd : S.ds[f]? = some d) (hg : glo S d.nm = true) (hk : kwOk (psOf d) xs.length ks kws = true) (ha : PA X xs (tEs X.K cs)) (hkw : PK X kws (tEs X.K cks)) (hs : ∀ e ∈ xs, notStar e = true) (hkn : ∀ w ∈ kws, w.arg.isSome = true)
    (hn : ∀ E os E', cs E = some (os, E') → os.length = xs.length) (hnk : ∀ E os E', cks E = some (os, E') → os.length = ks.length) (hnil : xs = [] → ∀ E os E', cs E = some (os, E') → E' = E) :
    PE X (.Call (.Name d.nm p) xs kws pos) (tE X.K fun E => (cs E).bind fun x => (cks x.2).bind fun y => callF F f d.m (place (.v .non) x.1 ks y.1) y.2) := by
  obtain ⟨g1, g2⟩ := gl_of k hg
  obtain ⟨a, fd, m1, m2, m3, m4⟩ := k.fns f d hd
  unfold kwOk at hk
  simp only [Bool.and_eq_true, decide_eq_true_eq, List.all_eq_true, List.mem_range] at hk
  obtain ⟨⟨⟨⟨k1, k2⟩, k3⟩, k4⟩, k5⟩ := hk
  have hnames : ∀ pos, (backToKw pos (keywordEach kws X.env)).map (·.1) = ks.map fun t => some ((psOf d).getD t ⟨#[]⟩) := fun pos => by rw [kw_names]; exact k5
  refine r_callK (n := 0) m4 m3 k.rm k.gd g1 m1 m2 ha hkw hn hnk hnil (fun pos => ⟨k1, k2, k3, k4, ?_⟩) (fun pos => ?_) g2 (fun a r e => by subst e; exact star_of (hs a (by simp))) fun pos => ?_
  · have := congrArg (List.filterMap id) (hnames pos)
    rw [List.filterMap_map, List.filterMap_map] at this
    have e2 : List.filterMap (id ∘ fun t => some ((psOf d).getD t ⟨#[]⟩)) ks = ks.map fun t => (psOf d).getD t ⟨#[]⟩ := by
      rw [← List.filterMap_eq_map]; rfl
    rw [e2] at this
    exact this
  · have := congrArg (fun l => l.all Option.isSome) (hnames pos)
    simp only [List.all_map] at this
    rw [show (backToKw pos (keywordEach kws X.env)).all (fun x => x.1.isSome) = (backToKw pos (keywordEach kws X.env)).all (Option.isSome ∘ fun x => x.1) from rfl, this]
    simp
  · have := congrArg (fun l => l.any Option.isNone) (hnames pos)
    simp only [List.any_map] at this
    rw [star_any hs, show (backToKw pos (keywordEach kws X.env)).any (fun x => x.1.isNone) = (backToKw pos (keywordEach kws X.env)).any (Option.isNone ∘ fun x => x.1) from rfl, this]
    simp
/-! ### comprehensions -/
theorem blk_ok {scope : Scope} {own : List Nat} {tg : Tg} (k : XOk F n S X) (h : blkOk S scope own tg = true) : BlkOk X.N X.env.scope scope (ownL S own) ∧ own.Nodup ∧ (∀ i ∈ tgs tg, i ∈ own) ∧ (∀ i ∈ own, i ∉ PinM.m) := by
  unfold blkOk at h
  simp only [Bool.and_eq_true, decide_eq_true_eq, List.all_eq_true, Bool.or_eq_true, Bool.not_eq_true', decide_eq_false_iff_not, List.any_eq_true, Bool.or_eq_false_iff] at h
  obtain ⟨⟨⟨⟨⟨⟨⟨h1, h2⟩, h3⟩, h4⟩, h5⟩, h6⟩, h7⟩, h8⟩ := h
  refine ⟨⟨h1, h2, fun p hp => ?_, fun y hy e => ?_, fun y hy e => ?_⟩, h6, h7, by rw [k.pin]; exact h8⟩
  · obtain ⟨i, hi, rfl⟩ := List.mem_map.mp hp
    rw [k.N]
    simp [List.getD, h3 i hi]
  · rw [k.sc]
    rcases h4 y hy with (q | q) | q
    · exact absurd e q
    · exact .inl q
    · exact .inr q
  · rcases h5 y hy with (q | ⟨i, hi, q⟩) | q
    · rcases e with e | e
      · exact absurd e q.1
      · exact absurd e q.2
    · refine .inl ?_
      unfold ownL
      rw [List.map_map]
      exact List.mem_map.mpr ⟨i, hi, q⟩
    · exact .inr (by rw [k.N]; exact q)
theorem ownL_snd (S : Sx) (own : List Nat) : (ownL S own).map (·.2) = own := by
  unfold ownL
  rw [List.map_map]
  exact List.map_id _
theorem tg_ok (k : XOk F n S X) {tg : Tg} {x : Expr} (h : tgOk S tg x = true) : PG X x (gT X.K tg) := by
  unfold tgOk at h
  split at h
  · exact g_nm (pg_nm k h) (store_of k h).2.2.2
  · rename_i l es kk p
    have g : ∀ (l : List Nat) (es : List Expr), tgOk.go S l es = true → PGs X es (gNames l) ∧ (∀ i ∈ l, i ∉ PinM.m) ∧ (assignEach es X.env).length = l.length ∧ (assignEach es X.env).findIdx? (·.1) = none := by
      intro l
      induction l with
      | nil => intro es h; cases es with
        | nil => exact ⟨pgs_nil, by simp, rfl, rfl⟩
        | cons a r => simp [tgOk.go] at h
      | cons i l ih => intro es h; cases es with
        | nil => simp [tgOk.go] at h
        | cons a r =>
          cases a with
          | Name y py =>
            simp only [tgOk.go, Bool.and_eq_true] at h
            obtain ⟨h1, h2⟩ := h
            obtain ⟨i1, i2, i3, i4⟩ := ih r h2
            refine ⟨pgs_cons (pg_nm k h1) i1, fun j hj => ?_, by simp [assignEach, i3], ?_⟩
            · rcases List.mem_cons.mp hj with e | e
              · subst e; exact (store_of k h1).2.2.2
              · exact i2 j e
            · simp only [assignEach]
              rw [List.findIdx?_cons]
              simp [i4]
          | _ => simp [tgOk.go] at h
    obtain ⟨g1, g2, g3, g4⟩ := g l es h
    exact g_tp (pg_tup k.calm g1 g3 g4) g2
  · cases h
theorem set_ok {iter : Expr} {env : PySem.Env} (h : notSet iter = true) : ∀ x, foldedSetIterable iter env x = pure x := by
  intro x
  cases iter with
  | Set => cases h
  | _ => rfl
theorem ix_ok {b : Expr} (h : plainIx b = true) : PlainIx b := by
  intro o i
  cases b with
  | Slice => cases h
  | _ => rfl
theorem att_ok {o : Expr} {nm : Str} {env : PySem.Env} {x : Str} {p : Pos} : attributeBase (.Name x p) nm env (eval (.Name x p) env) = eval (.Name x p) env := rfl
end
end Fr
end
section
set_option linter.all false
set_option autoImplicit true
set_option maxRecDepth 100000
/-! The match is sound. -/
namespace Fr
open PySem L2 PyProof.Rows RT
def exsLen : Exs → Nat
  | .nil => 0
  | .cons _ r => exsLen r + 1
theorem evs_len {F : Calls} {Gl : Nat → D} : ∀ {es : Exs} {E E' : Env} {os : List Opd}, evs F Gl es E = some (os, E') → os.length = exsLen es
  | .nil, E, E', os, h => by simp only [evs] at h; cases h; rfl
  | .cons e r, E, E', os, h => by
    simp only [evs] at h
    obtain ⟨x, e1, h⟩ := Option.bind_eq_some_iff.mp h
    obtain ⟨y, e2, h⟩ := Option.map_eq_some_iff.mp h
    cases h
    simp [exsLen, evs_len e2]
theorem cks_len : ∀ {es : Exs} {S : Sx} {xs : List Expr}, cks es S xs = true → exsLen es = xs.length
  | .nil, S, xs, h => by
    cases xs with
    | nil => rfl
    | cons => simp [cks] at h
  | .cons e r, S, xs, h => by
    cases xs with
    | nil => simp [cks] at h
    | cons x xs =>
      simp only [cks, Bool.and_eq_true] at h
      simp [exsLen, cks_len h.2]
theorem ckk_len : ∀ {es : Exs} {S : Sx} {xs : List Keyword}, ckk es S xs = true → exsLen es = xs.length ∧ ∀ w ∈ xs, w.arg.isSome = true
  | .nil, S, xs, h => by
    cases xs with
    | nil => exact ⟨rfl, by simp⟩
    | cons => simp [ckk] at h
  | .cons e r, S, xs, h => by
    cases xs with
    | nil => simp [ckk] at h
    | cons x xs =>
      obtain ⟨nm, x, p⟩ := x
      simp only [ckk, Bool.and_eq_true] at h
      obtain ⟨i1, i2⟩ := ckk_len h.2
      refine ⟨by simp [exsLen, i1], fun w hw => ?_⟩
      rcases List.mem_cons.mp hw with e | e
      · subst e; exact h.1.1
      · exact i2 w e
theorem cks_star : ∀ {es : Exs} {S : Sx} {xs : List Expr}, cks es S xs = true → ∀ e ∈ xs, notStar e = true
  | .nil, S, xs, h => by
    cases xs with
    | nil => simp
    | cons => simp [cks] at h
  | .cons e r, S, xs, h => by
    cases xs with
    | nil => simp [cks] at h
    | cons x xs =>
      simp only [cks, Bool.and_eq_true] at h
      intro y hy
      rcases List.mem_cons.mp hy with e | e
      · subst e; exact h.1.1
      · exact cks_star h.2 y e
theorem small {n : Nat} (h : n ≤ 1000) : n ≤ sizeLine := Nat.le_trans h (by decide)
section
variable [PinM] {F : Calls} {n : Nat} {Gl : Nat → D}
theorem and2 {a b : Bool} (h : (a && b) = true) : a = true ∧ b = true := by simpa using h
theorem Snd.bo {X : Cx} {e : Expr} {c : Sem1} (q : PW X e (tB' X.K c)) : Snd X e true c := ⟨q.pt, fun _ => q⟩
theorem comp_ok {S : Sx} {X : Cx} {own : List Nat} {tg : Tg} {scope : Scope} {tg' iter elt : Expr} {ifs : List Expr} {pos : Pos} {it : Env → Option (List D × Env)} {cc ce : Sem1} (k : XOk F n S X) (hb : blkOk S scope own tg = true) (hi : PI X tg' iter (tI X.K it)) (hs : notSet iter = true) (hg : tgOk (S.blk scope) tg tg' = true)
    (hc : (ifs = [] ∧ cc = fun E => some (.v (.bl true), E)) ∨ ∃ z, ifs = [z] ∧ ∀ X', XOk F n (S.blk scope) X' → PT X' z (tB' X'.K cc)) (he : ∀ X', XOk F n (S.blk scope) X' → PE X' elt (tE X'.K ce)) :
    PE X (.ListComp elt [⟨tg', iter, ifs, 0⟩] scope pos) (tE X.K (sComp it cc ce own tg)) := by
  obtain ⟨b1, b2, b3, b4⟩ := blk_ok k hb
  rcases hc with ⟨rfl, rfl⟩ | ⟨z, rfl, hz⟩
  · refine (pe_lc (g := gT X.K tg) (tt := tYes) (te := tE X.K ce) k.calm k.nd hi b1 (fun s H C cl fp => tg_ok (k.blk s H scope C cl fp) hg) (fun s H C cl fp => pts_nil) (fun s H C cl fp => he _ (k.blk s H scope C cl fp)) (set_ok hs)).imp fun σ H Q q => ?_
    rw [ownL_snd]
    exact lc_imp (fun σ H Q q => yes_imp q) b2 b3 b4 q
  · refine (pe_lc (g := gT X.K tg) (tt := tB' X.K cc) (te := tE X.K ce) k.calm k.nd hi b1 (fun s H C cl fp => tg_ok (k.blk s H scope C cl fp) hg) (fun s H C cl fp => pts_one (hz _ (k.blk s H scope C cl fp))) (fun s H C cl fp => he _ (k.blk s H scope C cl fp)) (set_ok hs)).imp fun σ H Q q => ?_
    rw [ownL_snd]
    exact lc_imp (fun σ H Q q => q) b2 b3 b4 q
set_option maxHeartbeats 4000000
mutual
theorem ck_ok : ∀ (x : Ex) {S : Sx} {X : Cx} {t : Bool} {e : Expr}, XOk F n S X → ck x S t e = true → Snd X e t (ev F Gl x)
  | .var i, S, X, t, e, k, h => by
    simp only [ck] at h
    split at h
    · exact Snd.of (r_var (x := ⟨#[]⟩) (pe_nm k h)) rfl
    · cases h
  | .con d, S, X, t, e, k, h => by
    simp only [ck] at h
    exact con_ok k h
  | .glo _, S, X, t, e, k, h => by simp [ck] at h
  | .op o a b, S, X, t, e, k, h => by
    simp only [ck] at h
    split at h
    · simp only [Bool.and_eq_true, Bool.not_eq_true'] at h
      obtain ⟨⟨⟨rfl, h1⟩, h2⟩, h3⟩ := h
      exact r_op2 (fun ta tb ha hb => pe_op (bin_ok k h1) ha hb) (ck_ok a k h2) (ck_ok b k h3)
    · simp only [Bool.and_eq_true] at h
      obtain ⟨⟨h1, h2⟩, h3⟩ := h
      obtain ⟨o1, o2, o3⟩ := cmp_ok k h1
      cases t with
      | false => exact r_op2 (fun ta tb ha hb => pe_cmpR o1 ha hb (nomark _ o2 o3)) (ck_ok a k h2) (ck_ok b k h3)
      | true => exact ⟨r_opT (pt_cmpR o1 (ck_ok a k h2) (ck_ok b k h3) (nomark _ o2 o3)), fun hb => by cases hb⟩
    · cases h
  | .chn o o' a b c, S, X, t, e, k, h => by
    simp only [ck] at h
    split at h
    · simp only [Bool.and_eq_true] at h
      obtain ⟨⟨⟨⟨h1, h2⟩, h3⟩, h4⟩, h5⟩ := h
      obtain ⟨o1, o2, o3⟩ := cmp_ok k h1
      obtain ⟨p1, p2, p3⟩ := cmp_ok k h2
      cases t with
      | false => exact r_chn (pe_chain o1 p1 (ck_ok a k h3) (ck_ok b k h4) (ck_ok c k h5) (last_ok p2 p3))
      | true => exact ⟨r_chnT (pt_chain o1 p1 (ck_ok a k h3) (ck_ok b k h4) (ck_ok c k h5) (last_ok p2 p3)), fun hb => by cases hb⟩
    · cases h
  | .neg a, S, X, t, e, k, h => by
    simp only [ck] at h
    split at h
    · exact Snd.of (r_op1 (fun ta ha => pe_un ur_neg ha) (ck_ok a k h)) rfl
    · cases h
  | .nt a, S, X, t, e, k, h => by
    simp only [ck] at h
    split at h
    · cases t with
      | false => exact r_not (fun t ht => pe_not ht) (ck_ok a k h)
      | true => exact ⟨r_notT (pt_not (ck_ok a k h).1), fun hb => by cases hb⟩
    · cases h
  | .an a b, S, X, t, e, k, h => by
    simp only [ck] at h
    split at h
    · obtain ⟨h1, h2⟩ := and2 h
      cases t with
      | false => exact r_and (fun t u ht hu => pe_and ht (pe_one hu)) (ck_ok a k h1) (r_asB (ck_ok b k h2))
      | true =>
        exact Snd.bo (r_andT (pw_and (ck_ok a k h1).1 (pw_and1 (ck_ok b k h2).1)))
    · obtain ⟨h1, h2⟩ := and2 h
      cases t with
      | false => exact r_and (fun t u ht hu => pe_and ht hu) (ck_ok a k h1) (r_asB (ck_ok b k h2))
      | true =>
        exact Snd.bo (r_andT (pw_and (ck_ok a k h1).1 ((ck_ok b k h2).2 rfl)))
    · cases h
  | .or a b, S, X, t, e, k, h => by
    simp only [ck] at h
    split at h
    · obtain ⟨h1, h2⟩ := and2 h
      cases t with
      | false => exact r_or (fun t u ht hu => pe_or ht (pe_one hu)) (ck_ok a k h1) (r_asB (ck_ok b k h2))
      | true =>
        exact Snd.bo (r_orT (pw_or (ck_ok a k h1).1 (pw_or1 (ck_ok b k h2).1)))
    · obtain ⟨h1, h2⟩ := and2 h
      cases t with
      | false => exact r_or (fun t u ht hu => pe_or ht hu) (ck_ok a k h1) (r_asB (ck_ok b k h2))
      | true =>
        exact Snd.bo (r_orT (pw_or (ck_ok a k h1).1 ((ck_ok b k h2).2 rfl)))
    · cases h
  | .ife c a b, S, X, t, e, k, h => by
    simp only [ck] at h
    split at h
    · simp only [Bool.and_eq_true, Bool.not_eq_true'] at h
      obtain ⟨⟨⟨rfl, h1⟩, h2⟩, h3⟩ := h
      exact r_ife (fun t u w ht hu hw => pe_ifExp ht hu hw) (ck_ok c k h1).1 (ck_ok a k h2) (ck_ok b k h3)
    · cases h
  | .lrev a, S, X, t, e, k, h => by
    simp only [ck] at h
    split at h
    · simp only [Bool.and_eq_true, decide_eq_true_eq] at h
      obtain ⟨⟨⟨⟨⟨rfl, rfl⟩, h1⟩, h2⟩, h3⟩, h4⟩ := h
      simp only [ev]
      exact Snd.of (lrev_ok k h1 h2 (ck_ok a k h4) h3) rfl
    · cases h
  | .isi ty a, S, X, t, e, k, h => by
    simp only [ck] at h
    split at h
    · simp only [Bool.and_eq_true, decide_eq_true_eq] at h
      obtain ⟨⟨⟨⟨⟨rfl, rfl⟩, h1⟩, h2⟩, h3⟩, h4⟩ := h
      simp only [ev]
      exact Snd.of (isi_ok k h1 h2 (ck_ok a k h4) h3) rfl
    · cases h
  | .blt f as, S, X, t, e, k, h => by
    simp only [ck] at h
    split at h
    · simp only [Bool.and_eq_true, decide_eq_true_eq] at h
      obtain ⟨⟨h1, h2⟩, h3⟩ := h
      simp only [ev]
      exact Snd.of (blt_ok k h1 h2 (cks_ok as k h3) (cks_star h3)) rfl
    · cases h
  | .call f m as, S, X, t, e, k, h => by
    simp only [ck] at h
    split at h
    · simp only [Bool.and_eq_true] at h
      obtain ⟨⟨h1, h2⟩, h3⟩ := h
      split at h1
      · rename_i d hd
        simp only [Bool.and_eq_true, decide_eq_true_eq] at h1
        obtain ⟨rfl, rfl⟩ := h1
        simp only [ev]
        exact Snd.of (call_okk k hd h2 (cks_ok as k h3) (cks_star h3)) rfl
      · cases h1
    · cases h
  | .callK f m as ks bs, S, X, t, e, k, h => by
    simp only [ck] at h
    split at h
    · simp only [Bool.and_eq_true] at h
      obtain ⟨⟨⟨h1, h2⟩, h3⟩, h4⟩ := h
      split at h1
      · rename_i d hd
        simp only [Bool.and_eq_true, decide_eq_true_eq] at h1
        obtain ⟨⟨rfl, rfl⟩, h5⟩ := h1
        simp only [ev]
        refine Snd.of (callk_okk k hd h2 h5 (cks_ok as k h3) (ckk_ok bs k h4) (cks_star h3) (ckk_len h4).2 (fun E os E' q => by rw [evs_len q, cks_len h3]) (fun E os E' q => ?_) fun e0 E os E' q => ?_) rfl
        · rw [evs_len q, (ckk_len h4).1]
          unfold kwOk at h5
          simp only [Bool.and_eq_true, decide_eq_true_eq] at h5
          have := congrArg List.length h5.2
          simpa using this
        · subst e0
          cases as with
          | nil => simp only [evs] at q; cases q; rfl
          | cons => simp [cks] at h3
      · cases h1
    · cases h
  | .tup es, S, X, t, e, k, h => by
    simp only [ck] at h
    split at h
    · simp only [Bool.and_eq_true, decide_eq_true_eq] at h
      simp only [ev]
      exact Snd.of (r_tup (fun t ht => pe_tup ht) (fun E os E' q => by rw [evs_len q, cks_len h.2]; exact small h.1) (cks_ok es k h.2)) rfl
    · cases h
  | .lst es, S, X, t, e, k, h => by
    simp only [ck] at h
    split at h
    · simp only [Bool.and_eq_true, decide_eq_true_eq] at h
      simp only [ev]
      exact Snd.of (r_lst (fun t ht => pe_lst ht) (fun E os E' q => by rw [evs_len q, cks_len h.2]; exact small h.1) (cks_ok es k h.2)) rfl
    · cases h
  | .dic ks ds, S, X, t, e, k, h => by
    simp only [ck] at h
    split at h
    · simp only [Bool.and_eq_true, List.isEmpty_iff] at h
      obtain ⟨rfl, rfl⟩ := h
      simp only [ev]
      exact Snd.of (r_dic0 pe_dnewK) rfl
    · split at h
      · simp only [Bool.and_eq_true, decide_eq_true_eq] at h
        obtain ⟨rfl, rfl⟩ := h
        simp only [ev]
        exact Snd.of (r_dic1 (k := .inl _) (v := .int _) (pe_disp (pps_cons pe_int pe_int pps_nil) rfl rfl (by simp) (by simp)) fun _ _ _ => ⟨rfl, rfl⟩) rfl
      · cases h
    · cases h
  | .ix a i, S, X, t, e, k, h => by
    simp only [ck] at h
    split at h
    · simp only [Bool.and_eq_true] at h
      simp only [ev]
      exact Snd.of (r_op2 (fun ta tb ha hb => pe_ix ix_data ha hb (ix_ok h.1.1)) (ck_ok a k h.1.2) (ck_ok i k h.2)) rfl
    · cases h
  | .sli l hh a lo hi, S, X, t, e, k, h => by
    simp only [ck] at h
    split at h
    · simp only [Bool.and_eq_true] at h
      obtain ⟨⟨h1, h2⟩, h3⟩ := h
      rename_i x lo' hi' p2 p3
      have hl : PO X lo' (tPartD X.K fun E => (ev F Gl lo E).bind (asPart l)) := by
        cases lo' with
        | none =>
          simp only [Bool.and_eq_true, Bool.not_eq_true'] at h2
          obtain ⟨rfl, h2⟩ := h2
          unfold isNonEx at h2
          split at h2
          · simp only [ev]; exact part_none po_none
          · cases h2
        | some y =>
          simp only [Bool.and_eq_true] at h2
          obtain ⟨rfl, h2⟩ := h2
          exact part_some (po_some (ck_ok lo k h2))
      have hr : PO X hi' (tPartD X.K fun E => (ev F Gl hi E).bind (asPart hh)) := by
        cases hi' with
        | none =>
          simp only [Bool.and_eq_true, Bool.not_eq_true'] at h3
          obtain ⟨rfl, h3⟩ := h3
          unfold isNonEx at h3
          split at h3
          · simp only [ev]; exact part_none po_none
          · cases h3
        | some y =>
          simp only [Bool.and_eq_true] at h3
          obtain ⟨rfl, h3⟩ := h3
          exact part_some (po_some (ck_ok hi k h3))
      simp only [ev]
      exact Snd.of (r_sli (pe_slice sl_data (ck_ok a k h1) hl hr)) rfl
    · cases h
  | .rev a, S, X, t, e, k, h => by
    simp only [ck] at h
    split at h
    · simp only [Bool.and_eq_true, decide_eq_true_eq] at h
      obtain ⟨rfl, h⟩ := h
      simp only [ev]
      exact Snd.of (r_op1 (fun ta ha => pe_back ha) (ck_ok a k h)) rfl
    · cases h
  | .comp own tg it c v, S, X, t, e, k, h => by
    simp only [ck] at h
    split at h
    · simp only [Bool.and_eq_true, decide_eq_true_eq] at h
      obtain ⟨⟨⟨⟨⟨⟨rfl, h1⟩, h2⟩, h3⟩, h4⟩, h5⟩, h6⟩ := h
      simp only [ev]
      refine Snd.of (comp_ok k h1 (ckI_ok it k h2) h3 h4 ?_ fun X' k' => ck_ok v k' h6) rfl
      split at h5
      · unfold isYes at h5
        split at h5
        · exact .inl ⟨rfl, by simp only [ev]⟩
        · cases h5
      · exact .inr ⟨_, rfl, fun X' k' => (ck_ok c k' h5).1⟩
      · cases h5
    · cases h
  | .app i a, S, X, t, e, k, h => by
    simp only [ck] at h
    split at h
    · simp only [Bool.and_eq_true, decide_eq_true_eq] at h
      obtain ⟨⟨⟨⟨rfl, h1⟩, h2⟩, h3⟩, h4⟩ := h
      simp only [ev]
      exact Snd.of (r_app (fun t ht => pe_bm PySem.F.plainAttrs_list PySem.F.slot_list_append PySem.F.type_list_append mt_append (pe_nm k h1) (pa_cons ht pa_nil (star_of h3)) rfl (by rw [star_of h3]; rfl) h2 (star_of h3) rfl) (ck_ok a k h4)) rfl
    · cases h
  | .popL i, S, X, t, e, k, h => by
    simp only [ck] at h
    split at h
    · simp only [Bool.and_eq_true, decide_eq_true_eq] at h
      obtain ⟨⟨rfl, h1⟩, h2⟩ := h
      simp only [ev]
      exact Snd.of (r_popL (pe_bm0 PySem.F.plainAttrs_list PySem.F.slot_list_pop PySem.F.type_list_pop mt_pop (pe_nm k h1) rfl h2)) rfl
    · cases h
  | .popA i j, S, X, t, e, k, h => by
    simp only [ck] at h
    split at h
    · simp only [Bool.and_eq_true, decide_eq_true_eq] at h
      obtain ⟨⟨⟨rfl, rfl⟩, h1⟩, h2⟩ := h
      simp only [ev]
      exact Snd.of (r_popA (pe_bm0 PySem.F.plainAttrs_list PySem.F.slot_list_pop PySem.F.type_list_pop mt_pop (pe_ix ix_list (pe_nm k h1) pe_int fun _ _ => rfl) rfl h2)) rfl
    · cases h
  | .sc a, S, X, t, e, k, h => by
    simp only [ck, Bool.and_eq_true, Bool.not_eq_true'] at h
    simp only [ev]
    cases t with
    | false => exact r_sc (ck_ok a k h.1)
    | true => exact ⟨r_scT (ck_ok a k h.1).1, fun hb => by rw [h.2] at hb; cases hb⟩
theorem cks_ok : ∀ (x : Exs) {S : Sx} {X : Cx} {es : List Expr}, XOk F n S X → cks x S es = true → PA X es (tEs X.K (evs F Gl x))
  | .nil, S, X, es, k, h => by
    cases es with
    | nil => exact r_nil pa_nil
    | cons => simp [cks] at h
  | .cons e r, S, X, es, k, h => by
    cases es with
    | nil => simp [cks] at h
    | cons x xs =>
      simp only [cks, Bool.and_eq_true] at h
      obtain ⟨⟨h1, h2⟩, h3⟩ := h
      exact r_cons (fun t u ht hu => pa_cons ht hu (star_of h1)) (ck_ok e k h2) (cks_ok r k h3)
theorem ckk_ok : ∀ (x : Exs) {S : Sx} {X : Cx} {es : List Keyword}, XOk F n S X → ckk x S es = true → PK X es (tEs X.K (evs F Gl x))
  | .nil, S, X, es, k, h => by
    cases es with
    | nil => exact k_nil pk_nil
    | cons => simp [ckk] at h
  | .cons e r, S, X, es, k, h => by
    cases es with
    | nil => simp [ckk] at h
    | cons x xs =>
      obtain ⟨nm, x, p⟩ := x
      simp only [ckk, Bool.and_eq_true] at h
      obtain ⟨⟨h1, h2⟩, h3⟩ := h
      exact k_cons (fun u hu => pk_cons (ck_ok e k h2) hu) (ckk_ok r k h3)
theorem ckI_ok : ∀ (x : It) {S : Sx} {X : Cx} {tg e : Expr}, XOk F n S X → ckI x S tg e = true → PI X tg e (tI X.K (evIt F Gl x))
  | .seq a, S, X, tg, e, k, h => by
    simp only [ckI] at h
    exact i_seq (fun t ht => pi_list ht) (fun t ht => pi_tup ht) (ck_ok a k h)
  | .rng as, S, X, tg, e, k, h => by
    simp only [ckI] at h
    split at h
    · simp only [Bool.and_eq_true, decide_eq_true_eq] at h
      obtain ⟨⟨⟨rfl, h1⟩, h2⟩, h3⟩ := h
      rename_i p xs pos
      obtain ⟨g1, g2⟩ := gl_of k h1
      have st := cks_star h2
      simp only [evIt]
      refine i_rngN (n := xs.length) (fun t ht => ?_) (fun E os E' q => by rw [evs_len q, cks_len h2]) (cks_ok as k h2)
      match xs, h3, ht, st with
      | [a], _, ht, st =>
        have s1 := star_of (es := []) (env := X.env) (st a (by simp))
        exact (pi_range1 g1 (k.nob _ (by decide +kernel)) ht s1).imp fun σ H R q => by
          rcases q with ⟨_, q⟩ | ⟨q, _⟩
          · exact q
          · cases q
      | [a, b], _, ht, st =>
        have s2 := star_of (es := []) (env := X.env) (st b (by simp))
        have s1 := star_of (es := [b]) (env := X.env) (st a (by simp))
        rw [s2] at s1
        exact (pi_range2 g1 (k.nob _ (by decide +kernel)) ht s1 s2).imp fun σ H R q => by
          rcases q with ⟨q, _⟩ | ⟨_, q⟩
          · cases q
          · exact q
    · cases h
  | .enu a, S, X, tg, e, k, h => by
    simp only [ckI] at h
    split at h
    · simp only [Bool.and_eq_true, decide_eq_true_eq] at h
      obtain ⟨⟨⟨rfl, h1⟩, h2⟩, h3⟩ := h
      obtain ⟨g1, g2⟩ := gl_of k h1
      simp only [evIt]
      exact i_enu (fun t ht => pi_enum g1 (k.nob _ (by decide +kernel)) ht (star_of h2)) (fun t ht => pi_enumT g1 (k.nob _ (by decide +kernel)) ht (star_of h2)) (fun t ht => pa_cons ht pa_nil (star_of h2)) (ck_ok a k h3)
    · cases h
  | .rev a, S, X, tg, e, k, h => by
    simp only [ckI] at h
    split at h
    · simp only [Bool.and_eq_true, decide_eq_true_eq] at h
      obtain ⟨⟨⟨rfl, h1⟩, h2⟩, h3⟩ := h
      obtain ⟨g1, g2⟩ := gl_of k h1
      simp only [evIt]
      exact i_rev (fun t ht => pi_revA g1 (k.nob _ (by decide +kernel)) ht (star_of h2)) (ck_ok a k h3)
    · cases h
end
end
end Fr
end
section
set_option linter.all false
set_option autoImplicit true
set_option maxRecDepth 100000
/-! Statements: the match and its soundness. -/
namespace Fr
open PySem L2 PyProof.Rows
def isComp : Ex → Bool
  | .comp .. => true
  | _ => false
def valOk (e : Ex) : Expr → Bool
  | .ListComp .. => isComp e
  | .SetComp .. => false
  | .DictComp .. => false
  | _ => true
def notTup : Expr → Bool
  | .Tuple .. => false
  | .List .. => false
  | _ => true
def isCall : Expr → Bool
  | .Call .. => true
  | _ => false
def parOk (S : Sx) (x y : Str) (px py : Pos) (a b : Expr) : Bool :=
  decide (S.sc.kind = .function) && decide (S.sc.names.lookup x = some .local) && decide (S.sc.names.lookup y = some .local) && decide (px.line = py.line) && !decide (x = y) && notStar a && notStar b && !([a, b].all (foldedForSure 8)) && !([a, b].all (constantsAlone 8))
mutual
def ckS : St → Sx → Stmt → Bool
  | .asg i e, S, st => match st with
    | .Assign [.Name x p] v pos => storeOk S i x && valOk e v && ck e S false v
    | _ => false
  | .asgT l e, S, st => match st with
    | .Assign [.Tuple ts kk p] v pos => tgOk S (.tp l) (.Tuple ts kk p) && notTup v && ck e S false v
    | _ => false
  | .par i j a b, S, st => match st with
    | .Assign [.Tuple [.Name x px, .Name y py] kt pt] (.Tuple [va, vb] k2 pt2) pos => storeOk S i x && storeOk S j y && parOk S x y px py va vb && ck a S false va && ck b S false vb
    | _ => false
  | .six i k e, S, st => match st with
    | .Assign [.Subscript (.Name x p) y p2] v pos => nameOk S i x && plainIx y && ck k S false y && ck e S false v
    | _ => false
  | .ex e, S, st => match st with
    | .Expr v pos => isCall v && ck e S false v
    | _ => false
  | .ife c a b, S, st => match st with
    | .If t p q _ => ck c S true t && ckSs a S p && ckSs b S q
    | _ => false
  | .wh c b, S, st => match st with
    | .While t p [] _ => ck c S true t && ckSs b S p
    | _ => false
  | .fr tg it b, S, st => match st with
    | .For tg' iter p [] _ => tgOk S tg tg' && notSet iter && ckI it S tg' iter && ckSs b S p
    | _ => false
  | .ret e, S, st => match st with
    | .Return (some v) _ => ck e S false v
    | .Return none _ => isNonEx e
    | _ => false
  | .brk, S, st => match st with
    | .Break _ => true
    | _ => false
  | .cnt, S, st => match st with
    | .Continue _ => true
    | _ => false
  | .pass, S, st => match st with
    | .Pass _ => true
    | _ => false
def ckSs : Sts → Sx → List Stmt → Bool
  | .nil, S, l => l.isEmpty
  | .cons s r, S, l => match l with
    | st :: l => ckS s S st && ckSs r S l
    | [] => false
end
theorem pair_stores {env : PySem.Env} {x y : Str} {px py pt pt2 : Pos} {a b : Expr} {kt k2 : Nat} (hk : env.blockKind = .function) (kx : env.kindOf x = some .local) (ky : env.kindOf y = some .local) (h4 : px.line = py.line) (h5 : ¬ x = y) (h6 : notStar a = true) (h7 : notStar b = true) (h8 : [a, b].all (foldedForSure 8) = false) (h9 : [a, b].all (constantsAlone 8) = false) :
    swappedStores [.Tuple [.Name x px, .Name y py] kt pt] (.Tuple [a, b] k2 pt2) env = pure (some [x, y]) := by
  have hy : (y == x) = false := by simpa using fun e => h5 e.symm
  have e1 : (Expr.Name x px).pos.line = px.line := rfl
  unfold swappedStores
  dsimp only
  refine (if_neg ?_).trans ?_
  · simp [hk]
  refine (if_neg ?_).trans ?_
  · simp only [List.any_cons, List.any_nil, Bool.or_false, Bool.or_eq_true, not_or]
    constructor
    · cases a <;> first | (exact Bool.false_ne_true) | cases h6
    · cases b <;> first | (exact Bool.false_ne_true) | cases h7
  have hx : ∀ f : Expr → Option Str, f (.Name x px) = some x → f (.Name y py) = some y → [Expr.Name x px, Expr.Name y py].filterMap f = [x, y] := fun f h1 h2 => by simp [h1, h2]
  rw [hx _ (by simp [kx, e1]) (by simp [ky, e1, h4])]
  refine (if_neg ?_).trans ?_
  · simp [List.eraseDups, List.eraseDupsBy, List.eraseDupsBy.loop, hy]
  refine (if_neg ?_).trans ?_
  · rw [h8]; exact Bool.false_ne_true
  simp only [h9]
  rfl
section
variable [PinM] {F : Calls} {n : Nat} {Gl : Nat → D} {S : Sx} {X : Cx}
theorem setlc_ok {own : List Nat} {tg : Tg} {scope : Scope} {tg' iter elt : Expr} {ifs : List Expr} {pos spos py : Pos} {y : Str} {i : Nat} {it : Env → Option (List D × Env)} {cc ce : Sem1} (k : XOk F n S X) (hb : blkOk S scope own tg = true) (hi : PI X tg' iter (tI X.K it)) (hs : notSet iter = true) (hg : tgOk (S.blk scope) tg tg' = true)
    (hc : (ifs = [] ∧ cc = fun E => some (.v (.bl true), E)) ∨ ∃ z, ifs = [z] ∧ ∀ X', XOk F n (S.blk scope) X' → PT X' z (tB' X'.K cc)) (he : ∀ X', XOk F n (S.blk scope) X' → PE X' elt (tE X'.K ce))
    (hy : X.N[i]? = some y) (hyl : X.env.scope.names.lookup y = some .local) (hsw : swapsWith (.ListComp elt [⟨tg', iter, ifs, 0⟩] scope pos) (some (.Name y py)) spos.line X.env = pure true) :
    ∃ t, PS X (.Assign [.Name y py] (.ListComp elt [⟨tg', iter, ifs, 0⟩] scope pos) spos) (tAsg t (gName i)) ∧ ∀ σ H Q, tE X.K (sComp it cc ce own tg) σ H Q → t σ H Q := by
  obtain ⟨b1, b2, b3, b4⟩ := blk_ok k hb
  rcases hc with ⟨rfl, rfl⟩ | ⟨z, rfl, hz⟩
  · refine ⟨_, ps_setLc (g := gT X.K tg) (tt := tYes) (te := tE X.K ce) k.calm k.nd hy hyl hsw hi b1 (fun s H C cl fp => tg_ok (k.blk s H scope C cl fp) hg) (fun s H C cl fp => pts_nil) (fun s H C cl fp => he _ (k.blk s H scope C cl fp)) (set_ok hs), fun σ H Q q => ?_⟩
    rw [ownL_snd]
    exact lc_imp (fun σ H Q q => yes_imp q) b2 b3 b4 q
  · refine ⟨_, ps_setLc (g := gT X.K tg) (tt := tB' X.K cc) (te := tE X.K ce) k.calm k.nd hy hyl hsw hi b1 (fun s H C cl fp => tg_ok (k.blk s H scope C cl fp) hg) (fun s H C cl fp => pts_one (hz _ (k.blk s H scope C cl fp))) (fun s H C cl fp => he _ (k.blk s H scope C cl fp)) (set_ok hs), fun σ H Q q => ?_⟩
    rw [ownL_snd]
    exact lc_imp (fun σ H Q q => q) b2 b3 b4 q
theorem asg_ok {i : Nat} {e : Ex} {v : Expr} {x : Str} {p pos : Pos} (k : XOk F n S X) (hs : storeOk S i x = true) (hv : valOk e v = true) (h : ck e S false v = true) :
    ∃ t, PS X (.Assign [.Name x p] v pos) (tAsg t (gName i)) ∧ ∀ σ H Q, tE X.K (ev F Gl e) σ H Q → t σ H Q := by
  obtain ⟨s1, s2, s3, s4⟩ := store_of k hs
  have plain : swapsWith v (some (.Name x p)) pos.line X.env = pure false → ∃ t, PS X (.Assign [.Name x p] v pos) (tAsg t (gName i)) ∧ ∀ σ H Q, tE X.K (ev F Gl e) σ H Q → t σ H Q := fun hsw =>
    ⟨_, ps_set k.nd s1 s2 (ck_ok e k h) hsw s3, fun _ _ _ q => q⟩
  cases v with
  | ListComp elt gens scope cpos =>
    have hsw : swapsWith (.ListComp elt gens scope cpos) (some (.Name x p)) pos.line X.env = pure (X.env.blockKind == .function && X.env.kindOf x == some .local && p.line == (Expr.ListComp elt gens scope cpos).pos.line && !(scope.names.any fun (n, k) => n == x && (k == .local || k == .cell))) := rfl
    cases hb : (X.env.blockKind == .function && X.env.kindOf x == some .local && p.line == (Expr.ListComp elt gens scope cpos).pos.line && !(scope.names.any fun (n, k) => n == x && (k == .local || k == .cell))) with
    | false => rw [hb] at hsw; exact plain hsw
    | true =>
      rw [hb] at hsw
      have hloc : X.env.scope.names.lookup x = some .local := by
        simp only [Bool.and_eq_true, beq_iff_eq] at hb
        exact hb.1.1.2
      cases e with
      | comp own tg it c w =>
        simp only [ck] at h
        split at h
        · rename_i heq
          cases heq
          simp only [Bool.and_eq_true, decide_eq_true_eq] at h
          obtain ⟨⟨⟨⟨⟨⟨rfl, h1⟩, h2⟩, h3⟩, h4⟩, h5⟩, h6⟩ := h
          simp only [ev]
          refine setlc_ok k h1 (ckI_ok it k h2) h3 h4 ?_ (fun X' k' => ck_ok w k' h6) s1 hloc hsw
          split at h5
          · unfold isYes at h5
            split at h5
            · exact .inl ⟨rfl, by simp only [ev]⟩
            · cases h5
          · exact .inr ⟨_, rfl, fun X' k' => (ck_ok c k' h5).1⟩
          · cases h5
        · cases h
      | _ => simp [valOk, isComp] at hv
  | SetComp => cases hv
  | DictComp => cases hv
  | _ => exact plain rfl
theorem sole_ok {t v : Expr} {line : Nat} {env : PySem.Env} (ht : ∀ x p, t ≠ .Name x p) : swapsWithSole [t] v line env = pure false := by
  cases t with
  | Name x p => exact absurd rfl (ht x p)
  | _ => cases v <;> rfl
theorem stores_none {t v : Expr} {env : PySem.Env} (hv : notTup v = true ∨ (∃ a b c, t = .Subscript a b c)) : swappedStores [t] v env = pure none := by
  rcases hv with hv | ⟨a, b, c, rfl⟩
  · cases v with
    | Tuple => cases hv
    | List => cases hv
    | _ => cases t <;> rfl
  · cases v <;> rfl
theorem par_stores (k : XOk F n S X) {x y : Str} {px py pt pt2 : Pos} {a b : Expr} {kt k2 : Nat} (h : parOk S x y px py a b = true) :
    swappedStores [.Tuple [.Name x px, .Name y py] kt pt] (.Tuple [a, b] k2 pt2) X.env = pure (some [x, y]) := by
  unfold parOk at h
  simp only [Bool.and_eq_true, decide_eq_true_eq, Bool.not_eq_true', decide_eq_false_iff_not] at h
  obtain ⟨⟨⟨⟨⟨⟨⟨⟨h1, h2⟩, h3⟩, h4⟩, h5⟩, h6⟩, h7⟩, h8⟩, h9⟩ := h
  have hk : X.env.blockKind = .function := by
    unfold PySem.Env.blockKind
    rw [k.sc, h1]; rfl
  have kx : X.env.kindOf x = some .local := by unfold PySem.Env.kindOf; rw [k.sc]; exact h2
  have ky : X.env.kindOf y = some .local := by unfold PySem.Env.kindOf; rw [k.sc]; exact h3
  exact pair_stores hk kx ky h4 h5 h6 h7 h8 h9
theorem sub_assign {o i : Expr} {p : Pos} {env : PySem.Env} (h : plainIx i = true) : ∀ v, assign (.Subscript o i p) env v = (do
      let ov ← holding [v] (eval o env)
      let iv ← holding [v, ov] (eval i env)
      standAt p
      holding [v, ov, iv] (setItem ov iv v)
      release [v, ov, iv] []) := by
  intro v
  cases i with
  | Slice => cases h
  | _ => rfl
theorem s_retN {st : Stmt} (h : PS X st tRetN) : PS X st (tS X.K fun E => some (.ret .non, E)) := h.imp fun D σ H q => by
  obtain ⟨G, Z, E, ts, f, E', hK, c, hs, he, hf⟩ := q
  cases he
  exact hf Z σ H .non (c.hold ⟨rfl, rfl⟩)
mutual
theorem ckS_ok : ∀ (s : St) {S : Sx} {X : Cx} {st : Stmt}, XOk F n S X → PassesOwn (model X.prog X.w) X.A X.env X.xe → ckS s S st = true → PS X st (tS X.K (exec F Gl s))
  | .asg i e, S, X, st, k, hp, h => by
    simp only [ckS] at h
    split at h
    · simp only [Bool.and_eq_true] at h
      obtain ⟨t, ht, im⟩ := asg_ok (Gl := Gl) k h.1.1 h.1.2 h.2
      simp only [exec]
      exact s_asg ht (store_of k h.1.1).2.2.2 im
    · cases h
  | .asgT l e, S, X, st, k, hp, h => by
    simp only [ckS] at h
    split at h
    · simp only [Bool.and_eq_true] at h
      simp only [exec]
      exact s_asgT (ps_asg (ck_ok e k h.2) (tg_ok k h.1.1) (sole_ok (fun _ _ e => by cases e)) (stores_none (.inl h.1.2)) rfl) fun _ _ _ q => q
    · cases h
  | .par i j a b, S, X, st, k, hp, h => by
    simp only [ckS] at h
    split at h
    · simp only [Bool.and_eq_true] at h
      obtain ⟨⟨⟨⟨h1, h2⟩, h3⟩, h4⟩, h5⟩ := h
      rename_i x px y py kt pt va vb k2 pt2 pos
      have hw := par_stores k (kt := kt) (pt := pt) (k2 := k2) (pt2 := pt2) h3
      unfold parOk at h3
      simp only [Bool.and_eq_true, decide_eq_true_eq, Bool.not_eq_true', decide_eq_false_iff_not] at h3
      obtain ⟨⟨⟨⟨⟨⟨⟨⟨q1, q2⟩, q3⟩, q4⟩, q5⟩, q6⟩, q7⟩, q8⟩, q9⟩ := h3
      obtain ⟨s1, s2, s3, s4⟩ := store_of k h1
      obtain ⟨t1, t2, t3, t4⟩ := store_of k h2
      simp only [exec]
      refine s_par (fun t ht => ps_par k.calm k.nd s1 t1 (fun e => ?_) (by rw [k.sc]; exact q2) (by rw [k.sc]; exact q3) ht hw (sole_ok fun _ _ e => by cases e)) (fun t u ht hu => pa_cons ht (pa_cons hu pa_nil (star_of q7)) (star_of q6)) s4 t4 (ck_ok a k h4) (ck_ok b k h5)
      subst e
      rw [s1] at t1
      exact q5 (Option.some.inj t1)
    · cases h
  | .six i k' e, S, X, st, k, hp, h => by
    simp only [ckS] at h
    split at h
    · simp only [Bool.and_eq_true] at h
      obtain ⟨⟨⟨h1, h2⟩, h3⟩, h4⟩ := h
      simp only [exec]
      exact s_six (ps_asg (ck_ok e k h4) (pg_sub (pe_nm k h1) (ck_ok k' k h3) set_list (sub_assign h2)) (sole_ok fun _ _ e => by cases e) (stores_none (.inr ⟨_, _, _, rfl⟩)) rfl)
    · cases h
  | .ex e, S, X, st, k, hp, h => by
    simp only [ckS] at h
    split at h
    · simp only [Bool.and_eq_true] at h
      simp only [exec]
      rename_i v pos
      refine s_ex (ps_expr (ck_ok e k h.2) ?_)
      cases v with
      | Call => rfl
      | _ => cases h.1
    · cases h
  | .ife c a b, S, X, st, k, hp, h => by
    simp only [ckS] at h
    split at h
    · simp only [Bool.and_eq_true] at h
      simp only [exec]
      exact s_ife (a := []) (b := []) (ps_if (ck_ok c k h.1.1).1 (ckSs_ok a k hp h.1.2) (ckSs_ok b k hp h.2))
    · cases h
  | .wh c b, S, X, st, k, hp, h => by
    simp only [ckS] at h
    split at h
    · simp only [Bool.and_eq_true] at h
      simp only [exec]
      exact s_wh (ps_while hp (ck_ok c k h.1).1 (ckSs_ok b k hp h.2))
    · cases h
  | .fr tg it b, S, X, st, k, hp, h => by
    simp only [ckS] at h
    split at h
    · simp only [Bool.and_eq_true] at h
      obtain ⟨⟨⟨h1, h2⟩, h3⟩, h4⟩ := h
      simp only [exec]
      exact s_fr (ps_for hp k.calm (ckI_ok it k h3) (tg_ok k h1) (ckSs_ok b k hp h4) (set_ok h2))
    · cases h
  | .ret e, S, X, st, k, hp, h => by
    simp only [ckS] at h
    split at h
    · simp only [exec]
      exact s_ret (ps_ret (ck_ok e k h))
    · unfold isNonEx at h
      split at h
      · simp only [exec, ev]
        exact s_retN ps_retN
      · cases h
    · cases h
  | .brk, S, X, st, k, hp, h => by
    simp only [ckS] at h
    split at h
    · simp only [exec]; exact s_brk ps_break
    · cases h
  | .cnt, S, X, st, k, hp, h => by
    simp only [ckS] at h
    split at h
    · simp only [exec]; exact s_cnt ps_continue
    · cases h
  | .pass, S, X, st, k, hp, h => by
    simp only [ckS] at h
    split at h
    · simp only [exec]; exact s_pass ps_pass
    · cases h
theorem ckSs_ok : ∀ (s : Sts) {S : Sx} {X : Cx} {l : List Stmt}, XOk F n S X → PassesOwn (model X.prog X.w) X.A X.env X.xe → ckSs s S l = true → PSs X l (tS X.K (execs F Gl s))
  | .nil, S, X, l, k, hp, h => by
    cases l with
    | nil => simp only [execs]; exact s_nil
    | cons => simp [ckSs] at h
  | .cons s r, S, X, l, k, hp, h => by
    cases l with
    | nil => simp [ckSs] at h
    | cons st l =>
      simp only [ckSs, Bool.and_eq_true] at h
      simp only [execs]
      exact s_cons (ckS_ok s k hp h.1) (ckSs_ok r k hp h.2)
end
end
end Fr
end
section
set_option linter.all false
set_option autoImplicit true
set_option maxRecDepth 100000
/-! Defs and programs. -/
namespace Fr
open PySem L2 PyProof.Rows
section
variable {K : PySem.W.Frag} {Z Z' : Adr → Prop} {H H' : Hp}
theorem cells_start : ∀ {ds : List D} {vs : List V} {O : List Adr}, RepL K Z H ds vs O → Cells K Z H ((ds.map some).zip (vs.map some)) O
  | [], vs, O, h => by rw [h.1, h.2]; rfl
  | d :: ds, vs, O, h => by
    obtain ⟨v, ws, O1, O2, rfl, rfl, h1, h2⟩ := h
    exact ⟨O1, O2, rfl, h1, cells_start h2⟩
theorem cells_none : ∀ (n m : Nat), Cells K Z H ((List.replicate n (none : Option D)).zip (List.replicate m (none : Option V))) []
  | 0, m => by simp [Cells]
  | n + 1, 0 => by simp [Cells]
  | n + 1, m + 1 => by
    rw [List.replicate_succ, List.replicate_succ]
    exact ⟨[], [], rfl, rfl, cells_none n m⟩
def pinsOf (m : Option Nat) (vs : List V) : List (Nat × V) := match m with
  | none => []
  | some k => [(k, vs.getD k .non)]
theorem fin_ok {m : Option Nat} {O : List Adr} {vs : List V} {σ : L2.St} {E : Env} {d r : D} {od : Option D} {v : V} (c : Cf ⟨K, H, O, Z, pinsOf m vs⟩ Z' H' σ E ((.v d, v) :: [])) (h : handed m d E = some (r, od)) : Post K Z H O vs m r od Z' H' v := by
  have hr : ∃ O', RepL K Z' H' (r :: od.toList) (v :: mv m vs) O' ∧ O'.Nodup ∧ ∀ p ∈ O', ¬ Z' p ∧ (p ∈ O ∨ H p = none) := by
    cases m with
    | none =>
      cases h
      obtain ⟨P, r1, L, _⟩ := Cf.lend (ds := [d]) (vs := [v]) (ts := []) rfl c
      exact ⟨P, r1, L.nd, fun p hp => ⟨L.nz p hp, L.mine p hp⟩⟩
    | some k =>
      obtain ⟨d', e, h⟩ := Option.map_eq_some_iff.mp h
      cases h
      have hv : σ[k]? = some (some (vs.getD k .non)) := c.pins (k, vs.getD k .non) (by simp [pinsOf])
      have c1 := (c.out e hv).perm (List.Perm.swap _ _ _)
      obtain ⟨P, r1, L, _⟩ := Cf.lend (ds := [d, d']) (vs := [v, vs.getD k .non]) (ts := []) rfl c1
      exact ⟨P, r1, L.nd, fun p hp => ⟨L.nz p hp, L.mine p hp⟩⟩
  exact ⟨fun p o e n => c.kp p o e n, c.z0, fun p z => ⟨c.zs p z, c.dom p z⟩, hr⟩
end
/-- a def's body does what its text in the small language does -/
theorem body_ok {P : Pg} {n i : Nat} {d : Df} {K : PySem.W.Frag} {vs : List V} {H : Hp} {Q : VK} (hd : P.ds[i]? = some d) (hnp : d.np ≤ d.ns.length) (hm : ∀ k, d.m = some k → k < d.np) (h : spD (runP P (n + 1) i) d.m K vs H Q) :
    @tS ⟨d.m.toList⟩ K (execs (runP P n) P.gl d.bd) { nx := fun _ H' => Q .non H', rt := Q } (L2.start d.ns vs) H := by
  letI : PinM := ⟨d.m.toList⟩
  obtain ⟨Z, ds, O, r, od, hr, hn, hz, hdm, hf, hq⟩ := h
  simp only [runP, hd, Option.bind_some, runD] at hf
  split at hf
  · rename_i hl
    obtain ⟨⟨f, E'⟩, he, hf⟩ := Option.bind_eq_some_iff.mp hf
    have lv : vs.length = d.np := by rw [← hr.len, hl]
    refine ⟨⟨K, H, O, Z, pinsOf d.m vs⟩, Z, start d ds, [], f, E', ⟨rfl, fun q hq => ?_⟩, ⟨?_, ⟨O, ?_, hn, fun p hp => ⟨hz p hp, .inl hp⟩⟩, by simp, fun p o e _ => e, hdm, fun p z => .inl z, fun p z => z, fun q hq => ?_⟩, fun i v hm => by simp at hm, he, ?_⟩
    · show q.1 ∈ d.m.toList
      have hq' : q ∈ pinsOf d.m vs := hq
      cases em : d.m with
      | none => rw [em] at hq'; cases hq'
      | some k =>
        rw [em] at hq'
        obtain rfl : q = (k, vs.getD k .non) := by simpa [pinsOf] using hq'
        simp
    · simp [start, L2.start, hl, lv]
    · have e : cells (start d ds) (L2.start d.ns vs) [] = (ds.map some).zip (vs.map some) ++ (List.replicate (d.ns.length - d.np) none).zip (List.replicate (d.ns.length - vs.length) none) := by
        unfold cells start L2.start
        rw [List.zip_append (by simp [hl, lv])]
        simp
      rw [e]
      have := Cells.app (cells_start hr) (cells_none (K := K) (Z := Z) (H := H) (d.ns.length - d.np) (d.ns.length - vs.length))
      simpa using this
    · have hq' : q ∈ pinsOf d.m vs := hq
      cases em : d.m with
      | none => rw [em] at hq'; cases hq'
      | some k =>
        rw [em] at hq'
        obtain rfl : q = (k, vs.getD k .non) := by simpa [pinsOf] using hq'
        have hk : k < vs.length := by rw [lv]; exact hm k em
        simp [L2.start, List.getElem?_append_left, hk, List.getD]
    · cases f with
      | nx => exact fun Z' σ' H' c => hq Z' H' .non (fin_ok (c.hold (d := .non) ⟨rfl, rfl⟩) hf)
      | ret x => exact fun Z' σ' H' v c => hq Z' H' v (fin_ok c hf)
      | brk => cases hf
      | cnt => cases hf
  · cases hf
end Fr
end
section
set_option linter.all false
set_option autoImplicit true
set_option maxRecDepth 100000
/-! Programs; the law's own end. -/
namespace Fr
open PySem L2 PyProof.Rows
def argsOk (a : Arguments) (ps : List Str) : Bool := a.posonlyargs.isEmpty && decide (a.args.map (·.arg) = ps) && a.vararg.isNone && a.kwonlyargs.isEmpty && a.kwarg.isNone
def scOk (N ps : List Str) (sc : Scope) : Bool := decide (sc.kind = .function ∧ sc.isCoroutine = false ∧ sc.isGenerator = false ∧ N.Nodup ∧ N.take ps.length = ps) && ps.all (fun x => decide (sc.names.lookup x = some .local ∨ sc.names.lookup x = some .cell)) && sc.names.all (fun y => decide (y.2 ≠ .free))
theorem scOk_by {N ps : List Str} {sc : Scope} (h : scOk N ps sc = true) : FnScope N ps sc := by
  unfold scOk at h
  simp only [Bool.and_eq_true, decide_eq_true_eq, List.all_eq_true] at h
  obtain ⟨⟨⟨h1, h2, h3, h4, h5⟩, h6⟩, h7⟩ := h
  exact ⟨h1, h2, h3, h4, h5, h6, h7⟩
def sxOf (ds : List Df) (gls : List (Str × D)) (d : Df) (sc : Scope) : Sx := ⟨d.ns, sc, fun _ => true, ds, gls, d.m.toList⟩
def dOk (ds : List Df) (gls : List (Str × D)) (d : Df) (st : Stmt) : Bool :=
  argsOk (defArgs st) (psOf d) && scOk d.ns (psOf d) (defScope st) && decide (d.np ≤ d.ns.length) && (match d.m with
    | none => true
    | some k => decide (k < d.np)) && ckSs d.bd (sxOf ds gls d (defScope st)) (defBody st)
/-- a def as the top has written it -/
def DefAt (K : PySem.W.Frag) (mg : Str → Option Value) (ds : List Df) (gls : List (Str × D)) (d : Df) : Prop := ∃ st f fd, L2.Fun K d.nm d.nm st f fd ∧ mg d.nm = some (.ref f) ∧ dOk ds gls d st = true
structure Top (K : PySem.W.Frag) (mg : Str → Option Value) (P : Pg) (gls : List (Str × D)) : Prop where
  ds : ∀ (i : Nat) (d : Df), P.ds[i]? = some d → DefAt K mg P.ds gls d
  nob : ∀ x ∈ bnames, mg x = none
  gls : ∀ q ∈ gls, ∃ v u, mg q.1 = some u ∧ RelV v u ∧ ∀ K Z H, Rep K Z H q.2 v []
section
variable {Pr : Program} {w : World} {K : PySem.W.Frag} {mg : Str → Option Value} {base : Heap} {P : Pg} {gls : List (Str × D)}
theorem plain_of {x : Str} {st : Stmt} {f : Addr} {fd : FuncData} {N ps : List Str} (F : L2.Fun K x x st f fd) (h : argsOk (defArgs st) ps = true) (hn : FnScope N ps (defScope st)) : Plain fd ps := by
  obtain ⟨oc, od, kV, doc, pm, an, cdv, ct, osl, rfl, lk, hcd⟩ := F.ex
  unfold argsOk at h
  simp only [Bool.and_eq_true, decide_eq_true_eq, List.isEmpty_iff, Option.isNone_iff_eq_none] at h
  obtain ⟨⟨⟨⟨h1, h2⟩, h3⟩, h4⟩, h5⟩ := h
  have hnd : ps.Nodup := by
    rw [← hn.pre]
    exact (List.take_sublist _ _).nodup hn.nd
  exact ⟨h1, h2, h3, h4, h5, rfl, hnd⟩
theorem prog_ok (hsys : ∃ o, base.get? sysModules = some o) (T : Top K mg P gls) : ∀ (n i : Nat) (d : Df), P.ds[i]? = some d → ∀ st f fd, L2.Fun K d.nm d.nm st f fd → dOk P.ds gls d st = true → FnG Pr w K mg base n f fd (psOf d) (spD (runP P n i) d.m K)
  | 0, i, d, hd, st, f, fd, F, hc => by
    refine ⟨fun vs H Q h => ?_, fun A outer s H args us vs Q _ _ _ _ _ h => ?_⟩
    · obtain ⟨Z, ds, O, r, od, _, _, _, _, hf, _⟩ := h
      simp [runP] at hf
    · obtain ⟨Z, ds, O, r, od, _, _, _, _, hf, _⟩ := h
      simp [runP] at hf
  | n + 1, i, d, hd, st, f, fd, F, hc => by
    unfold dOk at hc
    simp only [Bool.and_eq_true, decide_eq_true_eq] at hc
    obtain ⟨⟨⟨⟨c1, c2⟩, c3⟩, c4⟩, c5⟩ := hc
    have S := scOk_by c2
    have hlen : (psOf d).length = d.np := by simp [psOf]; omega
    have hm : ∀ k, d.m = some k → k < d.np := fun k e => by rw [e] at c4; simpa using c4
    refine fnG_of F S (fun vs H Q h => ?_) (fun cdv A outer s H vs Q hr hg h => ⟨_, ?_, body_ok hd c3 hm h⟩)
    · obtain ⟨Z, ds, O, r, od, hr, _, _, _, hf, _⟩ := h
      simp only [runP, hd, Option.bind_some, runD] at hf
      split at hf
      · rename_i hl
        rw [← hr.len, hl, hlen]
      · cases hf
    · letI : PinM := ⟨d.m.toList⟩
      refine ckSs_ok (F := runP P n) (n := n) (S := sxOf P.ds gls d (defScope st)) d.bd ⟨rfl, rfl, S.nd, rfl, fun _ _ => rfl, hg, hr, hsys, rfl, fun j e he => ?_, T.nob, T.gls⟩ PassesOwn.never c5
      obtain ⟨st', f', fd', F', m', c'⟩ := T.ds j e he
      have c'' := c'
      unfold dOk at c''
      simp only [Bool.and_eq_true, decide_eq_true_eq] at c''
      exact ⟨f', fd', m', F'.kp, plain_of F' c''.1.1.1.1 (scOk_by c''.1.1.1.2), prog_ok hsys T n j e he st' f' fd' F' c'⟩
/-! ### the law -/
def noL (K : PySem.W.Frag) : Bool := K.all fun q => match q.2.cls with
  | .type n => !(n == "list")
  | _ => true
def scr (ns : List Int) : D := .lst false (ns.map .int)
theorem rep_scr {K : PySem.W.Frag} {Z : Adr → Prop} {H : Hp} {a : Adr} {ns : List Int} {o : Obj} (h : H a = some (.frz o (.lst (ns.map V.int)))) : Rep K Z H (scr ns) (.ref a) [] := by
  refine ⟨a, ns.map V.int, rfl, .inr ⟨o, h⟩, (fun xs e => by rw [h] at e; cases e), rfl, ?_⟩
  clear h
  induction ns with
  | nil => exact ⟨rfl, rfl⟩
  | cons x r ih => exact ⟨.int x, r.map V.int, [], [], rfl, rfl, ⟨rfl, rfl⟩, ih⟩
theorem lookup_mem {l : PySem.W.Frag} {a : Adr} {o : Obj} (h : l.lookup a = some o) : (a, o) ∈ l := by
  induction l with
  | nil => cases h
  | cons x r ih =>
    obtain ⟨b, u⟩ := x
    rw [List.lookup_cons] at h
    cases e : a == b with
    | true =>
      rw [e] at h
      cases h
      have : a = b := by simpa using e
      rw [this]; exact List.mem_cons_self
    | false =>
      rw [e] at h
      exact List.mem_cons_of_mem _ (ih h)
/-- the call of the law -/
theorem law_G {mb : Str → Option Value} {n i : Nat} {d : Df} {fa a : Addr} {s₁ : Shared} {vs : List Value} {ns : List Int} {od : Option D}
    (KX : K.In s₁.heap) (hns : s₁.heap.Ns mainGlobals mg) (hb : s₁.heap.Ns builtinsNs mb) (hbb : ∀ x : Str, x ≠ "__name__" → mb x = bootBuiltins x) (hlim : s₁.heap.NoLimit) (hg : s₁.gens = #[])
    (ha : s₁.heap.get? a = some { cls := .type "list", data := .seq vs.toArray }) (hi : IntsAre vs ns) (hl : ns.length ≤ sizeLine) (hr : Room n callerA) (hK : noL K = true) (hpl : ∃ mm, s₁.heap.Ns sysModules mm)
    (T : Top K mg P gls) (hd : P.ds[i]? = some d) (hm : d.m = none) (hp : (psOf d).length = 1) (hfa : mg d.nm = some (.ref fa)) (run : runP P n i [scr ns] = some (.bl true, od)) :
    codeAny (model Pr w) callerA (.call (.ref fa) ⟨[.ref a], []⟩) (fun r s' => r = .ok (.ret (.bool true)) ∧ OldK s₁.heap s'.heap ∧ s'.os = s₁.os ∧ AllBare s'.gens) s₁ := by
  have rv := vals_ints hi
  have nk : K.lookup a = none := by
    cases e : K.lookup a with
    | none => rfl
    | some o =>
      have e2 := KX a o e
      rw [ha] at e2
      cases e2
      have := List.all_eq_true.mp hK _ (lookup_mem e)
      simp at this
  let ob : Obj := { cls := .type "list", data := .seq vs.toArray }
  let H : Hp := fun b => if b = a then some (.frz ob (.lst (ns.map V.int))) else none
  have Ha : H a = some (.frz ob (.lst (ns.map V.int))) := if_pos rfl
  have Hn : ∀ {b : Addr}, b ≠ a → H b = none := fun h => if_neg h
  have Hs : ∀ {b : Addr} {x : HO}, H b = some x → b = a := fun {b x} e => by
    by_cases h : b = a
    · exact h
    · rw [Hn h] at e; cases e
  have hok : HOk Pr w H s₁.heap := fun b x e => by
    have := Hs e
    subst this
    rw [Ha] at e; cases e
    exact ⟨ha, by rw [List.length_map]; exact hl, vs, _, rv, ha⟩
  have stay : ∀ {b : Addr} {o : Obj}, b ≠ a → s₁.heap.get? b = some o → (hidT s₁.heap H).get? b = some o := fun h e => hidT_get e (Hn h)
  have nsK : ∀ {b : Addr} {m : Str → Option Value}, s₁.heap.Ns b m → (hidT s₁.heap H).Ns b m := fun {b m} ⟨o, es, ep, e, dd, r⟩ => by
    refine ⟨o, es, ep, stay (fun z => ?_) e, dd, r⟩
    subst z
    rw [ha] at e
    cases e
    cases dd
  have hKb : K.In (hidT s₁.heap H) := fun b o e => stay (fun z => by subst z; rw [nk] at e; cases e) (KX b o e)
  have hM : Mod K mg (hidT s₁.heap H) := ⟨hKb, nsK hns, ⟨mb, nsK hb, hbb⟩, let ⟨mc, h1, h2⟩ := hlim; ⟨mc, nsK h1, h2⟩⟩
  have e0 : Env0 Pr w K mg (hidT s₁.heap H) callerA [] s₁ H := ⟨rfl, hM, fun b o e => of_hidT e, Nat.le_of_eq (hidT_size _ _), trivial, fun b hb => absurd (show b ∈ ([] : List Addr) from hb) (by simp), hok, .of_eq hg⟩
  obtain ⟨st, f, fd, F, mf, hc⟩ := T.ds i d hd
  have ef : f = fa := by rw [mf] at hfa; cases hfa; rfl
  subst ef
  have G := prog_ok (Pr := Pr) (w := w) (base := hidT s₁.heap H) (let ⟨mm, q⟩ := hpl; let ⟨o, _, _, e, _⟩ := nsK q; ⟨o, e⟩) T n i d hd st f fd F hc
  have c'' := hc
  unfold dOk at c''
  simp only [Bool.and_eq_true, decide_eq_true_eq] at c''
  have pl := plain_of F c''.1.1.1.1 (scOk_by c''.1.1.1.2)
  have sp : spD (runP P n i) d.m K [.ref a] H (fun v _ => v = .bl true) := by
    rw [hm]
    refine ⟨fun _ => False, [scr ns], [], .bl true, od, ⟨.ref a, [], [], [], rfl, rfl, rep_scr Ha, rfl, rfl⟩, List.nodup_nil, by simp, fun _ z => z.elim, run, fun Z' H' v p => ?_⟩
    obtain ⟨O', p1, _⟩ := p.r
    obtain ⟨v', ws, O1, O2, e, _, h1, _⟩ := p1
    cases e
    exact rep_bl h1
  refine codeAny_mono (G.run callerA [] s₁ H ⟨[.ref a], []⟩ [.ref a] [.ref a] _ hr rfl e0 (pos_binds pl (by rw [hp]; rfl)) (.cons rfl .nil) sp) fun r s' h => ?_
  cases r with
  | error e => exact h.elim
  | ok fl =>
    cases fl with
    | next => exact False.elim h
    | brk => exact False.elim h
    | cont => exact False.elim h
    | ret u =>
      obtain ⟨v, H', os, bare, un, hok', r', q⟩ := h
      have q' : v = .bl true := q
      subst q'
      obtain rfl : u = Value.bool true := r'
      refine ⟨rfl, OldK.of_keep fun b o e => ?_, os, bare⟩
      by_cases hba : b = a
      · subst hba
        have z2 := un.frzs b ob _ Ha
        obtain ⟨e2, _⟩ := hok' b _ z2
        rw [ha] at e; cases e
        exact e2
      · exact un.keep b o e (Hn hba) (by intro z; exact absurd (show b ∈ ([] : List Addr) from z) (by simp)) (by simp)
/-- the goal that the head leaves -/
theorem walk_G {l : PySem.W.OpenLaw} {m k i : Nat} {q : Program} {loose : List Str} {XP : (Str → Option Value) → Heap → Prop} {YP : World → Heap → Prop} {d : DefRec} {K : Params → PySem.W.Frag} {P : Pg} {gls : List (Str × D)} {df : Df}
    (hn : l.most = some m) (hn2 : m ≤ sizeLine) (hdf : d.params.defaults = []) (hr : Room k callerA) (hY : ∀ (w : World) (h : Heap), YP w h → (K w.params).In h) (hK : ∀ w : World, noL (K w.params) = true) (hq : importsNone q = true)
    (hi : P.ds[i]? = some df) (hm : df.m = none) (hp : (psOf df).length = 1) (hnm : df.nm = d.name)
    (T : ∀ (w : World) (mg : Str → Option Value) (fa : Addr) (h : Heap), YP w h → (K w.params).In h → h.Ns mainGlobals mg → mg d.name = some (.ref fa) → Top (K w.params) mg P gls)
    (run : ∀ ns : List Int, ns.length ≤ m → ∃ od, runP P k i [scr ns] = some (.bl true, od)) :
    PySem.W.WalkO q loose XP YP l.row.toRowW d [] (fun f vs => PySem.call f vs) := by
  refine Att.attach_call hn hdf fun w s₀ s₁ mg mb fa o pm cd doc a vs ns G Y ho hd hcd hmg hobj hints hlen hg => ?_
  have KX := hY w _ Y
  obtain ⟨od, hrun⟩ := run ns hlen
  exact law_G KX G.T.g G.T.b G.T.builtins G.T.nolimit hg hobj hints (Nat.le_trans hlen hn2) hr (hK w) (let ⟨mm, q, _⟩ := (G.T.seer hq).mods; ⟨mm, q⟩) (T w mg fa _ Y KX G.T.g hmg) hi hm hp (by rw [hnm]; exact hmg) hrun
/-- a def, from what the kernel sees -/
theorem def_mk {h : Heap} {ds : List Df} {d : Df} (KX : K.In h) (G : h.Ns mainGlobals mg) {st : Stmt} {f : Addr} {oc : Value} {od an : Option Addr} {osl : Array (Option Value)} {kV doc pm cdv ct : Value}
    (a : PySem.W.nsIn K mainGlobals d.nm = some (some (.ref f))) (l : K.lookup f = some ⟨oc, od, .func (PySem.W.fnOf d.nm d.nm (defArgs st) (defBody st) (defScope st) .none kV doc pm an cdv ct), osl⟩) (c : PySem.W.codeIn K cdv d.nm = true) (k : PySem.W.keepIn K (.ref f) = true) (hc : dOk ds gls d st = true) : DefAt K mg ds gls d :=
  ⟨st, f, _, fun_mk l c k, PySem.W.mg_of KX G a, hc⟩
end
end Fr
end
section
set_option linter.all false
set_option autoImplicit true
/-! Runs: what helps to reckon them. -/
namespace Fr
open PySem
@[simp] theorem get_zero (a : Option D) (E : Env) : get (a :: E) 0 = a := rfl
@[simp] theorem get_succ (a : Option D) (E : Env) (i : Nat) : get (a :: E) (i + 1) = get E i := by simp [get]
@[simp] theorem get_nil (i : Nat) : get [] i = none := by simp [get]
theorem when'_true {α : Type} {b : Bool} {x : α} (h : b = true) : when' b x = some x := by simp [when', h]
/-- more fuel, the same end -/
theorem goWh_more {c : Env → Option (Opd × Env)} {b : Env → Option (Fl × Env)} : ∀ {n m : Nat} {E : Env} {r : Fl × Env}, goWh c b n E = some r → n ≤ m → goWh c b m E = some r
  | 0, _, _, _, h, _ => by simp [goWh] at h
  | n + 1, 0, _, _, _, l => by omega
  | n + 1, m + 1, E, r, h, l => by
    simp only [goWh] at h ⊢
    cases e : c E with
    | none => rw [e] at h; cases h
    | some x =>
      rw [e] at h
      simp only [Option.bind_some] at h ⊢
      cases e2 : boolOf x.2 x.1 with
      | none => rw [e2] at h; cases h
      | some t =>
        rw [e2] at h
        simp only [Option.bind_some] at h ⊢
        cases t with
        | false => simpa using h
        | true =>
          simp only [if_true] at h ⊢
          cases e3 : b x.2 with
          | none => rw [e3] at h; cases h
          | some q =>
            rw [e3] at h
            obtain ⟨f, E'⟩ := q
            simp only [Option.bind_some] at h ⊢
            cases f with
            | nx => exact goWh_more h (by omega)
            | cnt => exact goWh_more h (by omega)
            | brk => exact h
            | ret d => exact h
theorem lim_of {α : Type} {f : Nat → Option α} {x : α} {n : Nat} (h : f n = some x) (m : ∀ n k r, f n = some r → n ≤ k → f k = some r) : lim f = some x := by
  unfold lim
  have ex : ∃ n, (f n).isSome = true := ⟨n, by rw [h]; rfl⟩
  rw [dif_pos ex]
  generalize hk : Classical.choose ex = k
  have hs := Classical.choose_spec ex
  rw [hk] at hs
  cases e : f k with
  | none => rw [e] at hs; cases hs
  | some y =>
    rcases Nat.le_total n k with l | l
    · rw [m _ _ _ h l] at e; exact e.symm ▸ rfl
    · have := m _ _ _ e l
      rw [h] at this; exact this.symm
theorem lim_wh {c : Env → Option (Opd × Env)} {b : Env → Option (Fl × Env)} {E : Env} {r : Fl × Env} {n : Nat} (h : goWh c b n E = some r) : (lim fun n => goWh c b n E) = some r :=
  lim_of (f := fun n => goWh c b n E) h fun _ _ _ => goWh_more
section
variable {F : Calls} {Gl : Nat → D} {E : Env}
@[simp] theorem appl_def {f : List D → Option D} {os : List Opd} : appl f os E = (Fr.fetch E os).bind fun ds => (f ds).map fun r => (.v r, if nof r = true then E else Fr.frzs E os) := rfl
@[simp] theorem asPart_def {b : Bool} {q : Opd × Env} : asPart b q = (fetch1 q.2 q.1).bind fun d => match b, d with
  | true, .int i => some (some i, q.2)
  | false, .non => some (none, q.2)
  | _, _ => none := rfl
@[simp] theorem ev_var {i : Nat} : ev F Gl (.var i) E = (get E i).map fun _ => (.sl i, E) := rfl
@[simp] theorem ev_con {d : D} : ev F Gl (.con d) E = some (.v d, E) := rfl
@[simp] theorem ev_op {o : Op2} {a b : Ex} : ev F Gl (.op o a b) E = (ev F Gl a E).bind fun x => (ev F Gl b x.2).bind fun y => appl (ap2 (f2 o)) [x.1, y.1] y.2 := by simp only [ev]
@[simp] theorem ev_chn {o o' : Op2} {a b c : Ex} : ev F Gl (.chn o o' a b c) E = (ev F Gl a E).bind fun x => (ev F Gl b x.2).bind fun y => (when' (twice y.1) ()).bind fun _ => (appl (ap2 (f2 o)) [x.1, y.1] y.2).bind fun r => (boolOf r.2 r.1).bind fun t =>
      if t = true then (ev F Gl c r.2).bind fun z => appl (ap2 (f2 o')) [y.1, z.1] z.2 else some (.v (.bl false), r.2) := by simp only [ev]
@[simp] theorem ev_neg {a : Ex} : ev F Gl (.neg a) E = (ev F Gl a E).bind fun x => appl (ap1 fun d => match d with | .int i => some (.int (-i)) | _ => none) [x.1] x.2 := by simp only [ev] <;> rfl
@[simp] theorem ev_nt {a : Ex} : ev F Gl (.nt a) E = (ev F Gl a E).bind fun x => (boolOf x.2 x.1).map fun b => (.v (.bl (!b)), x.2) := by simp only [ev]
@[simp] theorem ev_an {a b : Ex} : ev F Gl (.an a b) E = (ev F Gl a E).bind fun x => (boolOf x.2 x.1).bind fun t =>
      if t = true then (ev F Gl b x.2).bind fun y => (boolOf y.2 y.1).map fun u => (.v (.bl u), y.2) else some (.v (.bl false), x.2) := by simp only [ev]
@[simp] theorem ev_or {a b : Ex} : ev F Gl (.or a b) E = (ev F Gl a E).bind fun x => (boolOf x.2 x.1).bind fun t =>
      if t = true then some (.v (.bl true), x.2) else (ev F Gl b x.2).bind fun y => (boolOf y.2 y.1).map fun u => (.v (.bl u), y.2) := by simp only [ev]
@[simp] theorem ev_ife {c a b : Ex} : ev F Gl (.ife c a b) E = (ev F Gl c E).bind fun x => (boolOf x.2 x.1).bind fun t => if t = true then ev F Gl a x.2 else ev F Gl b x.2 := by simp only [ev]
@[simp] theorem ev_blt {f : Blt} {as : Exs} : ev F Gl (.blt f as) E = (evs F Gl as E).bind fun x => appl (fb f) x.1 x.2 := by simp only [ev]
@[simp] theorem ev_call {f : Nat} {m : Option Nat} {as : Exs} : ev F Gl (.call f m as) E = (evs F Gl as E).bind fun x => callF F f m x.1 x.2 := by simp only [ev]
@[simp] theorem ev_callK {f : Nat} {m : Option Nat} {as bs : Exs} {ks : List Nat} : ev F Gl (.callK f m as ks bs) E = (evs F Gl as E).bind fun x => (evs F Gl bs x.2).bind fun y => callF F f m (place (.v .non) x.1 ks y.1) y.2 := by simp only [ev]
@[simp] theorem ev_tup {es : Exs} : ev F Gl (.tup es) E = (evs F Gl es E).bind fun x => (Fr.takes x.2 x.1).map fun z => (.v (.tup z.1), z.2) := by simp only [ev]
@[simp] theorem ev_lst {es : Exs} : ev F Gl (.lst es) E = (evs F Gl es E).bind fun x => (Fr.takes x.2 x.1).map fun z => (.v (.lst true z.1), z.2) := by simp only [ev]
@[simp] theorem ev_dic {ks : List L2.Key} {ds : List D} : ev F Gl (.dic ks ds) E = some (.v (.dic true ks ds), E) := rfl
@[simp] theorem ev_ix {a i : Ex} : ev F Gl (.ix a i) E = (ev F Gl a E).bind fun x => (ev F Gl i x.2).bind fun y => appl (ap2 fix') [x.1, y.1] y.2 := by simp only [ev]
@[simp] theorem ev_sli {l h : Bool} {a lo hi : Ex} : ev F Gl (.sli l h a lo hi) E = (ev F Gl a E).bind fun x => ((ev F Gl lo x.2).bind (asPart l)).bind fun y => ((ev F Gl hi y.2).bind (asPart h)).bind fun z => appl (ap1 (fsl y.1 z.1)) [x.1] z.2 := by simp only [ev]
@[simp] theorem ev_rev {a : Ex} : ev F Gl (.rev a) E = (ev F Gl a E).bind fun x => appl (ap1 frev) [x.1] x.2 := by simp only [ev]
@[simp] theorem ev_app {i : Nat} {e : Ex} : ev F Gl (.app i e) E = (get E i).bind fun d0 => match d0 with
      | .lst _ _ => (ev F Gl e E).bind fun x => (Fr.take x.2 x.1).bind fun q => (get q.2 i).bind fun d => match d with
        | .lst true xs => when' (decide (xs.length < sizeLine)) (.v .non, q.2.set i (some (.lst true (xs ++ [q.1]))))
        | _ => none
      | _ => none := by simp only [ev] <;> rfl
@[simp] theorem ev_popL {i : Nat} : ev F Gl (.popL i) E = (get E i).bind fun d => match d with
      | .lst true xs => xs.getLast?.map fun x => (.v x, E.set i (some (.lst true xs.dropLast)))
      | _ => none := rfl
@[simp] theorem ev_popA {i j : Nat} : ev F Gl (.popA i j) E = (get E i).bind fun d => match d with
      | .lst true xs => (xs[j]?).bind fun d2 => match d2 with
        | .lst true ys => ys.getLast?.map fun y => (.v y, E.set i (some (.lst true (xs.set j (.lst true ys.dropLast)))))
        | _ => none
      | _ => none := rfl
@[simp] theorem ev_isi {t : Ty} {a : Ex} : ev F Gl (.isi t a) E = (ev F Gl a E).bind fun x => appl (ap1 (b1 (.isi t))) [x.1] x.2 := by simp only [ev]
@[simp] theorem ev_lrev {a : Ex} : ev F Gl (.lrev a) E = (ev F Gl a E).bind fun x => appl (ap1 (b1 .lrev)) [x.1] x.2 := by simp only [ev]
@[simp] theorem ev_sc {e : Ex} : ev F Gl (.sc e) E = (ev F Gl e (E.map (·.map fz))).bind fun x => match x.1 with
      | .v d => if nof d = true then some (.v d, E) else none
      | _ => none := by simp only [ev] <;> rfl
@[simp] theorem ex_asg {i : Nat} {e : Ex} : Fr.exec F Gl (.asg i e) E = (ev F Gl e E).bind fun x => (Fr.take x.2 x.1).map fun q => (.nx, q.2.set i (some q.1)) := by simp only [Fr.exec]
@[simp] theorem ex_asgT {l : List Nat} {e : Ex} : Fr.exec F Gl (.asgT l e) E = (ev F Gl e E).bind fun x => (Fr.take x.2 x.1).bind fun q => (Fr.asg (.tp l) q.1 q.2).map fun E' => (.nx, E') := by simp only [Fr.exec]
@[simp] theorem ex_par {i j : Nat} {a b : Ex} : Fr.exec F Gl (.par i j a b) E = (ev F Gl a E).bind fun x => (ev F Gl b x.2).bind fun y => (Fr.take y.2 x.1).bind fun q => (Fr.take q.2 y.1).map fun z => (.nx, (z.2.set i (some q.1)).set j (some z.1)) := by simp only [Fr.exec]
@[simp] theorem ex_six {i : Nat} {k e : Ex} : Fr.exec F Gl (.six i k e) E = (get E i).bind fun _ => (ev F Gl e E).bind fun x => (ev F Gl k x.2).bind fun y => (fetch1 y.2 y.1).bind fun n => (Fr.take y.2 x.1).bind fun q => (get q.2 i).bind fun d => match d, n with
      | .lst true xs, .int j => (ixN xs.length j).map fun m => (.nx, q.2.set i (some (.lst true (xs.set m q.1))))
      | _, _ => none := by simp only [Fr.exec] <;> rfl
@[simp] theorem ex_ex {e : Ex} : Fr.exec F Gl (.ex e) E = (ev F Gl e E).map fun x => (.nx, x.2) := by simp only [Fr.exec]
@[simp] theorem ex_ife {c : Ex} {a b : Sts} : Fr.exec F Gl (.ife c a b) E = (ev F Gl c E).bind fun x => (boolOf x.2 x.1).bind fun t => if t = true then Fr.execs F Gl a x.2 else Fr.execs F Gl b x.2 := by simp only [Fr.exec]
@[simp] theorem ex_ret {e : Ex} : Fr.exec F Gl (.ret e) E = (ev F Gl e E).bind fun x => match x.1 with
      | .sl i => (get x.2 i).map fun d => (.ret d, x.2.set i none)
      | .v d => some (.ret d, x.2) := by simp only [Fr.exec] <;> rfl
@[simp] theorem ex_brk : Fr.exec F Gl .brk E = some (.brk, E) := by simp only [Fr.exec]
@[simp] theorem ex_cnt : Fr.exec F Gl .cnt E = some (.cnt, E) := by simp only [Fr.exec]
@[simp] theorem ex_pass : Fr.exec F Gl .pass E = some (.nx, E) := by simp only [Fr.exec]
@[simp] theorem exs_nil : Fr.execs F Gl .nil E = some (.nx, E) := by simp only [Fr.execs]
@[simp] theorem exs_cons {s : St} {r : Sts} : Fr.execs F Gl (.cons s r) E = (Fr.exec F Gl s E).bind fun q => match q.1 with
      | .nx => Fr.execs F Gl r q.2
      | f => some (f, q.2) := by simp only [Fr.execs] <;> rfl
@[simp] theorem it_seq {a : Ex} : evIt F Gl (.seq a) E = (ev F Gl a E).bind fun x => (fetch1 x.2 x.1).bind fun d => (items d).map fun l => (l, frz1 x.2 x.1) := by simp only [evIt]
@[simp] theorem it_rng {as : Exs} : evIt F Gl (.rng as) E = (evs F Gl as E).bind fun x => (Fr.fetch x.2 x.1).bind fun ds => (frng ds).map fun l => (l, x.2) := by simp only [evIt]
@[simp] theorem it_enu {a : Ex} : evIt F Gl (.enu a) E = (ev F Gl a E).bind fun x => (fetch1 x.2 x.1).bind fun d => (items d).map fun l => (enumD 0 l, frz1 x.2 x.1) := by simp only [evIt]
@[simp] theorem it_rev {a : Ex} : evIt F Gl (.rev a) E = (ev F Gl a E).bind fun x => (fetch1 x.2 x.1).bind fun d => (items d).map fun l => (l.reverse, frz1 x.2 x.1) := by simp only [evIt]
@[simp] theorem add_int (a b : Int) : f2 .add (.int a) (.int b) = some (.int (a + b)) := rfl
@[simp] theorem add_tup (a b : List D) : f2 .add (.tup a) (.tup b) = when' (decide (a.length + b.length ≤ sizeLine)) (.tup (a ++ b)) := rfl
@[simp] theorem add_lst (o o' : Bool) (a b : List D) : f2 .add (.lst o a) (.lst o' b) = when' (decide (a.length + b.length ≤ sizeLine)) (.lst true (a ++ b)) := rfl
@[simp] theorem sub_int (a b : Int) : f2 .sub (.int a) (.int b) = some (.int (a - b)) := rfl
@[simp] theorem mul_int (a b : Int) : f2 .mul (.int a) (.int b) = when' (bigMul a b) (.int (a * b)) := rfl
theorem mul_lst (o : Bool) (a : List D) (k : Int) : f2 .mul (.lst o a) (.int k) = when' (okMulL a.length k) (.lst true (List.replicate k.toNat a).flatten) := rfl
theorem mul_tup (a : List D) (k : Int) : f2 .mul (.tup a) (.int k) = when' (okMulT a.length k) (.tup (List.replicate k.toNat a).flatten) := rfl
theorem flat_one (d : D) (k : Nat) : (List.replicate k [d]).flatten = List.replicate k d := by
  induction k with
  | zero => rfl
  | succ k ih => simp only [List.replicate_succ, List.flatten_cons, ih]; rfl
theorem mul_l1 (o : Bool) (d : D) {k : Nat} (h : k ≤ 1000000) : f2 .mul (.lst o [d]) (.int (k : Nat)) = some (.lst true (List.replicate k d)) := by
  have h1 : decide ((-(2 ^ 63) : Int) ≤ (k : Nat)) = true := decide_eq_true (by omega)
  have h2 : decide (((k : Nat) : Int) < 2 ^ 63) = true := decide_eq_true (by omega)
  have h3 : decide (([d] : List D).length * k ≤ sizeLine) = true := decide_eq_true (by rw [List.length_singleton, Nat.one_mul]; exact Nat.le_trans h (by decide))
  rw [mul_lst]
  unfold okMulL
  rw [Int.toNat_natCast, h1, h2, h3, flat_one]
  exact when'_true rfl
theorem mul_t1 (d : D) {k : Nat} (h : k ≤ 1000) : f2 .mul (.tup [d]) (.int (k : Nat)) = some (.tup (List.replicate k d)) := by
  have h1 : decide ((-1000000 : Int) ≤ (k : Nat)) = true := decide_eq_true (by omega)
  have h2 : decide (((k : Nat) : Int) ≤ 1000) = true := decide_eq_true (by omega)
  rw [mul_tup]
  unfold okMulT
  rw [Int.toNat_natCast, h1, h2, flat_one]
  exact when'_true rfl
@[simp] theorem fdiv_int (a b : Int) : f2 .fdiv (.int a) (.int b) = when' (okDiv b) (.int (a / b)) := rfl
@[simp] theorem mod_int (a b : Int) : f2 .mod (.int a) (.int b) = when' (decide (0 < b)) (.int (a % b)) := rfl
@[simp] theorem pow_int (a b : Int) : f2 .pow (.int a) (.int b) = when' (okPow a b) (.int (a ^ b.toNat)) := rfl
@[simp] theorem lt_int (a b : Int) : f2 .lt (.int a) (.int b) = some (.bl (decide (a < b))) := rfl
@[simp] theorem le_int (a b : Int) : f2 .le (.int a) (.int b) = some (.bl (decide (a ≤ b))) := rfl
@[simp] theorem gt_int (a b : Int) : f2 .gt (.int a) (.int b) = some (.bl (decide (b < a))) := rfl
@[simp] theorem ge_int (a b : Int) : f2 .ge (.int a) (.int b) = some (.bl (decide (b ≤ a))) := rfl
@[simp] theorem eq_str (a b : Str) : f2 .eq (.str a) (.str b) = some (.bl (a == b)) := rfl
@[simp] theorem ne_str (a b : Str) : f2 .ne (.str a) (.str b) = some (.bl (!(a == b))) := rfl
@[simp] theorem eq_int (a b : Int) : f2 .eq (.int a) (.int b) = some (.bl (decide (a = b))) := by
  simp [f2, when', Fr.plain, SeqAt.shaped, py, PyData.eqv, PyData.canLay0, PyData.depth, Bool.beq_eq_decide_eq]
@[simp] theorem ne_int (a b : Int) : f2 .ne (.int a) (.int b) = some (.bl (!decide (a = b))) := by
  simp [f2, when', Fr.plain, SeqAt.shaped, py, PyData.eqv, PyData.canLay0, PyData.depth, Bool.beq_eq_decide_eq]
@[simp] theorem eq_bl (a b : Bool) : f2 .eq (.bl a) (.bl b) = some (.bl (a == b)) := by
  simp [f2, when', Fr.plain, SeqAt.shaped, py, PyData.eqv, PyData.canLay0, PyData.depth, Bool.beq_eq_decide_eq]
@[simp] theorem ne_bl (a b : Bool) : f2 .ne (.bl a) (.bl b) = some (.bl (!(a == b))) := by
  simp [f2, when', Fr.plain, SeqAt.shaped, py, PyData.eqv, PyData.canLay0, PyData.depth, Bool.beq_eq_decide_eq]
/-- loops -/
theorem wh_run {c : Ex} {b : Sts} {n : Nat} {r : Fl × Env} (h : goWh (ev F Gl c) (Fr.execs F Gl b) n E = some r) : Fr.exec F Gl (.wh c b) E = some r := by
  simp only [Fr.exec]
  exact lim_wh h
theorem fr_run {tg : Tg} {it : It} {b : Sts} {l : List D} {E1 : Env} {r : Fl × Env} (hi : evIt F Gl it E = some (l, E1)) (h : goFor (Fr.execs F Gl b) tg l E1 = some r) : Fr.exec F Gl (.fr tg it b) E = some r := by
  simp only [Fr.exec, hi, Option.bind_some]
  exact h
theorem comp_run {own : List Nat} {tg : Tg} {it : It} {c e : Ex} {l res : List D} {E1 E2 : Env} (hi : evIt F Gl it E = some (l, E1)) (h : goComp (ev F Gl c) (ev F Gl e) own tg l E1 = some (res, E2)) (hl : res.length ≤ sizeLine) :
    ev F Gl (.comp own tg it c e) E = some (.v (.lst true res), restore E2 own (own.map fun i => (E1[i]?).bind id)) := by
  simp [ev, hi, h, when', hl]
end
section
variable {c : Env → Option (Opd × Env)} {b : Env → Option (Fl × Env)} {n : Nat} {E E1 E2 : Env} {o : Opd}
theorem goWh_t (hc : c E = some (o, E1)) (ht : boolOf E1 o = some true) (hb : b E1 = some (.nx, E2)) : goWh c b (n + 1) E = goWh c b n E2 := by simp only [goWh, hc, ht, hb, Option.bind_some, if_true]
theorem goWh_f (hc : c E = some (o, E1)) (ht : boolOf E1 o = some false) : goWh c b (n + 1) E = some (.nx, E1) := by simp only [goWh, hc, ht, Option.bind_some, Bool.false_eq_true, if_false]
theorem goFor_nx {tg : Tg} {x : D} {r : List D} (ha : Fr.asg tg x E = some E1) (hb : b E1 = some (.nx, E2)) : goFor b tg (x :: r) E = goFor b tg r E2 := by simp only [goFor, ha, hb, Option.bind_some]
theorem goFor_cnt {tg : Tg} {x : D} {r : List D} (ha : Fr.asg tg x E = some E1) (hb : b E1 = some (.cnt, E2)) : goFor b tg (x :: r) E = goFor b tg r E2 := by simp only [goFor, ha, hb, Option.bind_some]
theorem goFor_brk {tg : Tg} {x : D} {r : List D} (ha : Fr.asg tg x E = some E1) (hb : b E1 = some (.brk, E2)) : goFor b tg (x :: r) E = some (.nx, E2) := by simp only [goFor, ha, hb, Option.bind_some]
theorem goFor_ret {tg : Tg} {x d : D} {r : List D} (ha : Fr.asg tg x E = some E1) (hb : b E1 = some (.ret d, E2)) : goFor b tg (x :: r) E = some (.ret d, E2) := by simp only [goFor, ha, hb, Option.bind_some]
end
section
variable {c e : Env → Option (Opd × Env)} {own : List Nat} {tg : Tg} {x d : D} {r : List D} {E E1 E2 E3 E4 : Env} {o o2 : Opd}
theorem goComp_t (ha : Fr.asg tg x (wipe E own) = some E1) (hc : c E1 = some (o, E2)) (ht : boolOf E2 o = some true) (he : e E2 = some (o2, E3)) (hk : Fr.take E3 o2 = some (d, E4)) : goComp c e own tg (x :: r) E = (goComp c e own tg r E4).map fun z => (d :: z.1, z.2) := by
  simp only [goComp, ha, hc, ht, he, hk, Option.bind_some, if_true]
theorem goComp_f (ha : Fr.asg tg x (wipe E own) = some E1) (hc : c E1 = some (o, E2)) (ht : boolOf E2 o = some false) : goComp c e own tg (x :: r) E = goComp c e own tg r E2 := by
  simp only [goComp, ha, hc, ht, Option.bind_some, Bool.false_eq_true, if_false]
end
theorem nofs_ints (l : List Int) : nofs (l.map D.int) = true := by induction l with
  | nil => rfl
  | cons a r ih => simp [ih]
theorem fzs_ints (l : List Int) : fzs (l.map D.int) = l.map D.int := by induction l with
  | nil => rfl
  | cons a r ih => simp [ih]
def nn (l : List Nat) : List D := l.map fun x => D.int (x : Nat)
@[simp] theorem nn_nil : nn [] = [] := rfl
@[simp] theorem nn_cons (a : Nat) (r : List Nat) : nn (a :: r) = .int (a : Nat) :: nn r := rfl
@[simp] theorem nn_app (a b : List Nat) : nn (a ++ b) = nn a ++ nn b := by simp [nn]
@[simp] theorem nn_len (a : List Nat) : (nn a).length = a.length := by simp [nn]
@[simp] theorem nn_rev (a : List Nat) : (nn a).reverse = nn a.reverse := by simp [nn]
@[simp] theorem nn_at (a : List Nat) (i : Nat) : (nn a)[i]? = a[i]?.map fun x => D.int (x : Nat) := by simp [nn]
@[simp] theorem nofs_nn (l : List Nat) : nofs (nn l) = true := by induction l with
  | nil => rfl
  | cons a r ih => simp [ih]
@[simp] theorem fzs_nn (l : List Nat) : fzs (nn l) = nn l := by induction l with
  | nil => rfl
  | cons a r ih => simp [ih]
@[simp] theorem fzs_app (a b : List D) : fzs (a ++ b) = fzs a ++ fzs b := by induction a with
  | nil => rfl
  | cons x r ih => simp [ih]
@[simp] theorem nofs_app (a b : List D) : nofs (a ++ b) = (nofs a && nofs b) := by induction a with
  | nil => rfl
  | cons x r ih => simp [ih, Bool.and_assoc]
@[simp] theorem items_tup (l : List D) : items (.tup l) = some l := rfl
@[simp] theorem items_lst (o : Bool) (l : List D) : items (.lst o l) = some l := rfl
@[simp] theorem asg_nm (i : Nat) (d : D) (E : Env) : Fr.asg (.nm i) d E = some (E.set i (some d)) := rfl
theorem ixN_nat {n i : Nat} (h : i < n) : ixN n (i : Int) = some i := by
  unfold ixN L2.ixN
  simp [h]
theorem runP_at {P : Pg} {n i : Nat} {d : Df} {as : List D} (h : P.ds[i]? = some d) : runP P (n + 1) i as = runD (runP P n) P.gl (Fr.execs (runP P n) P.gl) d as := by
  simp [runP, h]
theorem runD_at {F : Calls} {gl : Nat → D} {d : Df} {as : List D} (h : as.length = d.np) : runD F gl (Fr.execs F gl) d as = (Fr.execs F gl d.bd (Fr.start d as)).bind fun q => match q.1 with
    | .nx => handed d.m .non q.2
    | .ret r => handed d.m r q.2
    | _ => none := by unfold runD; rw [if_pos h] <;> rfl
theorem run_at {P : Pg} {n i : Nat} {d : Df} {as : List D} (h : P.ds[i]? = some d) (hl : as.length = d.np) : runP P (n + 1) i as = (Fr.execs (runP P n) P.gl d.bd (Fr.start d as)).bind fun q => match q.1 with
    | .nx => handed d.m .non q.2
    | .ret r => handed d.m r q.2
    | _ => none := (runP_at h).trans (runD_at hl)
end Fr
end
section
set_option linter.all false
set_option maxRecDepth 100000
namespace K01
open PySem Fr
def topS (i : Nat) : Stmt := PySem.Challenge.pw_figuredrows_k01_figures_judged.main.body.getD i (.Pass ⟨0, 0, 0, 0⟩)
def d0 : Df where
  nm := "is_integer"
  ns := ["value"]
  np := 1
  m := none
  bd := (.cons (.ret (.an (.isi .int (.var 0)) (.nt (.isi .bool (.var 0))))) .nil)
def d1 : Df where
  nm := "is_whole"
  ns := ["value", "low", "high"]
  np := 3
  m := none
  bd := (.cons (.ret (.an (.call 0 none (.cons (.var 0) .nil)) (.chn .le .le (.var 1) (.var 0) (.var 2)))) .nil)
def L2_0c : Ex := (.op .gt (.var 1) (.con (.int 0)))
def L2_0b : Sts := (.cons (.ex (.app 2 (.op .mod (.var 1) (.var 0)))) (.cons (.asg 1 (.op .fdiv (.var 1) (.var 0))) .nil))
def L2_0 : St := .wh L2_0c L2_0b
def d2 : Df where
  nm := "figures_of"
  ns := ["base", "number", "found"]
  np := 2
  m := none
  bd := (.cons (.asg 2 (.lst .nil)) (.cons L2_0 (.cons (.ret (.blt .tuple (.cons (.var 2) .nil))) .nil)))
def L3_0b : Sts := (.cons (.asg 2 (.op .add (.op .mul (.var 2) (.var 0)) (.var 3))) .nil)
def L3_0i : It := (.seq (.rev (.var 1)))
def L3_0 : St := .fr (.nm 3) L3_0i L3_0b
def d3 : Df where
  nm := "number_of"
  ns := ["base", "figures", "found", "figure"]
  np := 2
  m := none
  bd := (.cons (.asg 2 (.con (.int 0))) (.cons L3_0 (.cons (.ret (.var 2)) .nil)))
def d4 : Df where
  nm := "figure_at"
  ns := ["base", "number", "place", "figures"]
  np := 3
  m := none
  bd := (.cons (.asg 3 (.call 2 none (.cons (.var 0) (.cons (.var 1) .nil)))) (.cons (.ret (.ife (.op .lt (.var 2) (.blt .len (.cons (.var 3) .nil))) (.ix (.var 3) (.var 2)) (.con (.int 0)))) .nil))
def L5_0c : Ex := (.op .eq (.op .mod (.var 1) (.op .mul (.var 2) (.var 0))) (.con (.int 0)))
def L5_0b : Sts := (.cons (.asg 2 (.op .mul (.var 2) (.var 0))) .nil)
def L5_0 : St := .wh L5_0c L5_0b
def d5 : Df where
  nm := "power_in"
  ns := ["base", "number", "found"]
  np := 2
  m := none
  bd := (.cons (.ife (.op .eq (.var 1) (.con (.int 0))) (.cons (.ret (.con (.int 0))) .nil) .nil) (.cons (.asg 2 (.con (.int 1))) (.cons L5_0 (.cons (.ret (.var 2)) .nil))))
def C6_0c : Ex := (.nt (.call 1 none (.cons (.var 4) (.cons (.con (.int 0)) (.cons (.op .sub (.var 0) (.con (.int 1))) .nil)))))
def C6_0e : Ex := (.var 3)
def C6_0i : It := (.enu (.var 1))
def C6_0 : Ex := .comp [3, 4] (.tp [3, 4]) C6_0i C6_0c C6_0e
def d6 : Df where
  nm := "figures_error"
  ns := ["base", "value", "bad", "i", "item"]
  np := 2
  m := none
  bd := (.cons (.ife (.or (.nt (.isi .tuple (.var 1))) (.op .gt (.blt .len (.cons (.var 1) .nil)) (.con (.int 200)))) (.cons (.ret (.con (.str "form"))) .nil) .nil) (.cons (.asg 2 C6_0) (.cons (.ret (.ife (.op .ne (.var 2) (.lst .nil)) (.tup (.cons (.con (.str "figure")) (.cons (.ix (.var 2) (.con (.int 0))) .nil))) (.con .non))) .nil)))
def L7_0b : Sts := (.cons (.asg 2 (.op .mod (.op .add (.op .add (.op .mul (.var 2) (.con (.int 48271))) (.op .mod (.blt .int (.cons (.var 3) .nil)) (.con (.int 2147483629)))) (.con (.int 7))) (.con (.int 2147483647)))) .nil)
def L7_0i : It := (.seq (.var 1))
def L7_0 : St := .fr (.nm 3) L7_0i L7_0b
def C7_1c : Ex := (.con (.bl true))
def C7_1e : Ex := (.blt .abs (.cons (.var 3) .nil))
def C7_1i : It := (.seq (.sli false true (.var 0) (.con .non) (.con (.int 63))))
def C7_1 : Ex := .comp [3] (.nm 3) C7_1i C7_1c C7_1e
def d7 : Df where
  nm := "_law_own_bag"
  ns := ["script", "cells", "mixed", "cell"]
  np := 1
  m := none
  bd := (.cons (.asg 1 C7_1) (.cons (.asg 2 (.op .add (.con (.int 2468)) (.blt .len (.cons (.var 1) .nil)))) (.cons L7_0 (.cons (.ret (.lst (.cons (.lrev (.blt .list (.cons (.var 1) .nil))) (.cons (.con (.int 0)) (.cons (.var 2) .nil))))) .nil))))
def L8_0c : Ex := (.an (.op .eq (.ix (.var 0) (.con (.int 1))) (.con (.int 0))) (.sc (.op .ne (.ix (.var 0) (.con (.int 0))) (.lst .nil))))
def L8_0b : Sts := (.cons (.asg 2 (.popA 0 0)) (.cons (.six 0 (.con (.int 1)) (.ife (.op .gt (.var 2) (.op .pow (.con (.int 10)) (.con (.int 9)))) (.var 2) (.con (.int 0)))) .nil))
def L8_0 : St := .wh L8_0c L8_0b
def d8 : Df where
  nm := "_law_draw"
  ns := ["bag", "below", "cell", "found"]
  np := 2
  m := some 0
  bd := (.cons L8_0 (.cons (.ife (.op .gt (.ix (.var 0) (.con (.int 1))) (.con (.int 0))) (.cons (.asg 3 (.op .mod (.blt .int (.cons (.ix (.var 0) (.con (.int 1))) .nil)) (.var 1))) (.cons (.six 0 (.con (.int 1)) (.op .fdiv (.ix (.var 0) (.con (.int 1))) (.var 1))) (.cons (.ret (.var 3)) .nil))) .nil) (.cons (.six 0 (.con (.int 2)) (.op .mod (.op .add (.op .mul (.blt .int (.cons (.ix (.var 0) (.con (.int 2))) .nil)) (.con (.int 48271))) (.con (.int 11))) (.con (.int 2147483647)))) (.cons (.ret (.op .mod (.op .fdiv (.op .mod (.op .mul (.blt .int (.cons (.ix (.var 0) (.con (.int 2))) .nil)) (.blt .int (.cons (.ix (.var 0) (.con (.int 2))) .nil))) (.con (.int 2147483629))) (.con (.int 7))) (.var 1))) .nil))))
def d9 : Df where
  nm := "_law_pick"
  ns := ["bag", "some"]
  np := 2
  m := some 0
  bd := (.cons (.ret (.ix (.var 1) (.call 8 (some 0) (.cons (.var 0) (.cons (.blt .len (.cons (.var 1) .nil)) .nil))))) .nil)
def d10 : Df where
  nm := "_law_same"
  ns := ["told", "due"]
  np := 2
  m := none
  bd := (.cons (.ret (.an (.op .eq (.blt .repr (.cons (.var 0) .nil)) (.blt .repr (.cons (.var 1) .nil))) (.op .eq (.isi .tuple (.var 0)) (.isi .tuple (.var 1))))) .nil)
def L11_0b : Sts := (.cons (.ife (.op .eq (.var 4) (.con (.int 0))) (.cons .brk .nil) .nil) (.cons (.ex (.app 3 (.op .sub (.var 4) (.op .mul (.op .fdiv (.var 4) (.var 0)) (.var 0))))) (.cons (.asg 4 (.op .fdiv (.var 4) (.var 0))) .nil)))
def L11_0i : It := (.rng (.cons (.con (.int 400)) .nil))
def L11_0 : St := .fr (.nm 2) L11_0i L11_0b
def d11 : Df where
  nm := "_law_own_figures"
  ns := ["base", "number", "turn", "found", "left"]
  np := 2
  m := none
  bd := (.cons (.par 3 4 (.lst .nil) (.var 1)) (.cons L11_0 (.cons (.ret (.blt .tuple (.cons (.var 3) .nil))) .nil)))
def L12_0b : Sts := (.cons (.asg 2 (.op .add (.op .mul (.var 2) (.var 0)) (.var 3))) .nil)
def L12_0i : It := (.rev (.blt .list (.cons (.var 1) .nil)))
def L12_0 : St := .fr (.nm 3) L12_0i L12_0b
def d12 : Df where
  nm := "_law_own_worth"
  ns := ["base", "figures", "worth", "figure"]
  np := 2
  m := none
  bd := (.cons (.asg 2 (.con (.int 0))) (.cons L12_0 (.cons (.ret (.var 2)) .nil)))
def L13_0b : Sts := (.cons (.ife (.op .ne (.var 3) (.con (.int 0))) (.cons (.ret (.var 2)) .nil) .nil) (.cons (.asg 2 (.op .mul (.var 2) (.var 0))) .nil))
def L13_0i : It := (.seq (.var 1))
def L13_0 : St := .fr (.nm 3) L13_0i L13_0b
def d13 : Df where
  nm := "_law_own_power"
  ns := ["base", "figures", "power", "figure"]
  np := 2
  m := none
  bd := (.cons (.asg 2 (.con (.int 1))) (.cons L13_0 (.cons (.ret (.con (.int 0))) .nil)))
def L14_0b : Sts := (.cons (.asg 3 (.op .mul (.var 3) (.var 1))) .nil)
def L14_0i : It := (.rng (.cons (.call 8 (some 0) (.cons (.var 0) (.cons (.ife (.op .eq (.var 1) (.con (.int 2))) (.con (.int 100)) (.con (.int 63))) .nil))) .nil))
def L14_0 : St := .fr (.nm 4) L14_0i L14_0b
def d14 : Df where
  nm := "_law_own_number"
  ns := ["bag", "base", "way", "power", "turn"]
  np := 2
  m := some 0
  bd := (.cons (.asg 2 (.call 8 (some 0) (.cons (.var 0) (.cons (.con (.int 6)) .nil)))) (.cons (.ife (.op .eq (.var 2) (.con (.int 0))) (.cons (.ret (.call 8 (some 0) (.cons (.var 0) (.cons (.con (.int 30)) .nil)))) .nil) .nil) (.cons (.ife (.op .eq (.var 2) (.con (.int 1))) (.cons (.ret (.op .sub (.op .pow (.con (.int 10)) (.con (.int 30))) (.op .mul (.call 8 (some 0) (.cons (.var 0) (.cons (.con (.int 3)) .nil))) (.call 8 (some 0) (.cons (.var 0) (.cons (.con (.int 50)) .nil)))))) .nil) .nil) (.cons (.ife (.op .eq (.var 2) (.con (.int 2))) (.cons (.ret (.call 8 (some 0) (.cons (.var 0) (.cons (.op .add (.op .pow (.con (.int 10)) (.con (.int 30))) (.con (.int 1))) .nil)))) .nil) .nil) (.cons (.ife (.op .eq (.var 2) (.con (.int 3))) (.cons (.ret (.op .mul (.call 8 (some 0) (.cons (.var 0) (.cons (.op .pow (.con (.int 10)) (.con (.int 9))) .nil))) (.call 8 (some 0) (.cons (.var 0) (.cons (.op .pow (.con (.int 10)) (.con (.int 9))) .nil))))) .nil) .nil) (.cons (.asg 3 (.con (.int 1))) (.cons L14_0 (.cons (.ife (.op .eq (.var 2) (.con (.int 4))) (.cons (.ret (.op .add (.op .sub (.var 3) (.con (.int 1))) (.call 8 (some 0) (.cons (.var 0) (.cons (.con (.int 3)) .nil))))) .nil) .nil) (.cons (.ret (.blt .min (.cons (.op .pow (.con (.int 10)) (.con (.int 30))) (.cons (.op .mul (.var 3) (.op .add (.con (.int 1)) (.call 8 (some 0) (.cons (.var 0) (.cons (.con (.int 12)) .nil))))) .nil)))) .nil)))))))))
def C15_0c : Ex := (.con (.bl true))
def C15_0e : Ex := (.call 8 (some 0) (.cons (.var 0) (.cons (.var 1) .nil)))
def C15_0i : It := (.rng (.cons (.op .sub (.var 4) (.blt .min (.cons (.var 4) (.cons (.var 5) .nil)))) .nil))
def C15_0 : Ex := .comp [6] (.nm 6) C15_0i C15_0c C15_0e
def d15 : Df where
  nm := "_law_own_row"
  ns := ["bag", "base", "way", "row", "many", "ends", "place"]
  np := 2
  m := some 0
  bd := (.cons (.asg 2 (.call 8 (some 0) (.cons (.var 0) (.cons (.con (.int 12)) .nil)))) (.cons (.ife (.op .eq (.var 2) (.con (.int 0))) (.cons (.par 4 5 (.op .add (.con (.int 199)) (.call 8 (some 0) (.cons (.var 0) (.cons (.con (.int 2)) .nil)))) (.call 8 (some 0) (.cons (.var 0) (.cons (.con (.int 3)) .nil)))) .nil) (.cons (.par 4 5 (.call 8 (some 0) (.cons (.var 0) (.cons (.ife (.op .lt (.var 2) (.con (.int 3))) (.con (.int 70)) (.con (.int 9))) .nil))) (.call 8 (some 0) (.cons (.var 0) (.cons (.con (.int 4)) .nil)))) .nil)) (.cons (.asg 3 C15_0) (.cons (.ret (.blt .tuple (.cons (.op .add (.var 3) (.op .mul (.lst (.cons (.con (.int 0)) .nil)) (.blt .min (.cons (.var 4) (.cons (.var 5) .nil))))) .nil))) .nil))))
def L16_0b : Sts := (.cons (.ife (.or (.nt (.isi .int (.var 3))) (.or (.isi .bool (.var 3)) (.or (.op .lt (.var 3) (.con (.int 0))) (.op .ge (.var 3) (.var 0))))) (.cons (.ret (.tup (.cons (.con (.str "figure")) (.cons (.var 2) .nil)))) .nil) .nil) .nil)
def L16_0i : It := (.enu (.var 1))
def L16_0 : St := .fr (.tp [2, 3]) L16_0i L16_0b
def d16 : Df where
  nm := "_law_own_error"
  ns := ["base", "value", "place", "item"]
  np := 2
  m := none
  bd := (.cons (.ife (.or (.nt (.isi .tuple (.var 1))) (.op .gt (.blt .len (.cons (.var 1) .nil)) (.con (.int 200)))) (.cons (.ret (.con (.str "form"))) .nil) .nil) (.cons L16_0 (.cons (.ret (.con .non)) .nil)))
def L17_0b : Sts := (.cons (.ex (.app 4 (.op .add (.op .add (.sli false true (.var 2) (.con .non) (.var 6)) (.tup (.cons (.call 9 (some 0) (.cons (.var 0) (.cons (.var 3) .nil))) .nil))) (.sli true false (.var 2) (.op .add (.var 6) (.con (.int 1))) (.con .non))))) .nil)
def L17_0i : It := (.seq (.lst (.cons (.call 8 (some 0) (.cons (.var 0) (.cons (.blt .len (.cons (.var 2) .nil)) .nil))) (.cons (.var 5) (.cons (.con (.int 0)) .nil)))))
def L17_0 : St := .fr (.nm 6) L17_0i L17_0b
def d17 : Df where
  nm := "_law_own_values"
  ns := ["bag", "base", "row", "odd", "found", "last", "place", "both", "one", "other"]
  np := 3
  m := some 0
  bd := (.cons (.asg 3 (.lst (.cons (.var 1) (.cons (.neg (.con (.int 1))) (.cons (.con (.bl true)) (.cons (.con (.bl false)) (.cons (.con .non) (.cons (.con (.str "0")) (.cons (.tup (.cons (.con (.int 0)) .nil)) (.cons (.lst (.cons (.con (.int 1)) .nil)) (.cons (.dic [] []) (.cons (.op .pow (.con (.int 10)) (.con (.int 40))) (.cons (.neg (.var 1)) (.cons (.op .add (.var 1) (.con (.int 1))) (.cons (.neg (.op .pow (.con (.int 10)) (.con (.int 40)))) (.cons (.con (.str "")) (.cons (.con (.int 9)) .nil))))))))))))))))) (.cons (.asg 4 (.lst (.cons (.var 2) (.cons (.op .add (.var 2) (.op .mul (.tup (.cons (.con (.int 0)) .nil)) (.op .sub (.con (.int 200)) (.blt .len (.cons (.var 2) .nil))))) (.cons (.op .add (.var 2) (.op .mul (.tup (.cons (.con (.int 1)) .nil)) (.op .sub (.con (.int 201)) (.blt .len (.cons (.var 2) .nil))))) (.cons (.blt .list (.cons (.var 2) .nil)) (.cons (.blt .list (.cons (.op .add (.var 2) (.tup (.cons (.var 1) .nil))) .nil)) .nil))))))) (.cons (.ex (.app 4 (.op .add (.op .add (.tup (.cons (.var 1) .nil)) (.sli true false (.var 2) (.con (.int 1)) (.con .non))) (.op .mul (.tup (.cons (.con (.int 0)) .nil)) (.op .sub (.con (.int 201)) (.blt .max (.cons (.con (.int 1)) (.cons (.blt .len (.cons (.var 2) .nil)) .nil)))))))) (.cons (.ife (.op .ne (.var 2) (.tup .nil)) (.cons (.asg 5 (.op .sub (.blt .len (.cons (.var 2) .nil)) (.con (.int 1)))) (.cons L17_0 (.cons (.par 8 9 (.call 8 (some 0) (.cons (.var 0) (.cons (.blt .len (.cons (.var 2) .nil)) .nil))) (.call 8 (some 0) (.cons (.var 0) (.cons (.blt .len (.cons (.var 2) .nil)) .nil)))) (.cons (.asg 7 (.blt .list (.cons (.var 2) .nil))) (.cons (.six 7 (.var 8) (.call 9 (some 0) (.cons (.var 0) (.cons (.var 3) .nil)))) (.cons (.six 7 (.var 9) (.call 9 (some 0) (.cons (.var 0) (.cons (.var 3) .nil)))) (.cons (.ex (.app 4 (.blt .tuple (.cons (.var 7) .nil)))) (.cons (.ex (.app 4 (.op .add (.sli false true (.var 2) (.con .non) (.var 5)) (.tup (.cons (.con (.bl true)) .nil))))) .nil)))))))) .nil) (.cons (.ex (.app 4 (.op .add (.op .mul (.tup (.cons (.con (.int 0)) .nil)) (.con (.int 199))) (.tup (.cons (.call 9 (some 0) (.cons (.var 0) (.cons (.var 3) .nil))) .nil))))) (.cons (.ex (.app 4 (.call 9 (some 0) (.cons (.var 0) (.cons (.lst (.cons (.con .non) (.cons (.con (.str "")) (.cons (.con (.str "01")) (.cons (.con (.int 0)) (.cons (.con (.int 1)) (.cons (.con (.bl true)) (.cons (.con (.bl false)) (.cons (.dic [] []) (.cons (.dic [.inl 0] [.int 1]) (.cons (.lst .nil) (.cons (.lst (.cons (.con (.int 0)) .nil)) (.cons (.neg (.con (.int 1))) (.cons (.tup (.cons (.tup (.cons (.con (.int 0)) (.cons (.con (.int 1)) .nil))) .nil)) (.cons (.tup (.cons (.con .non) .nil)) .nil))))))))))))))) .nil))))) (.cons (.ex (.app 4 (.call 9 (some 0) (.cons (.var 0) (.cons (.lst (.cons (.tup (.cons (.con (.int 1)) (.cons (.con (.int 0)) .nil))) (.cons (.tup (.cons (.con (.int 0)) (.cons (.con (.int 1)) (.cons (.con (.int 1)) (.cons (.con (.int 2)) .nil))))) (.cons (.tup (.cons (.con (.int 2)) .nil)) (.cons (.tup (.cons (.con (.int 1)) (.cons (.con (.int 1)) (.cons (.con (.int 3)) .nil)))) (.cons (.tup (.cons (.con (.bl false)) .nil)) (.cons (.tup (.cons (.tup .nil) .nil)) (.cons (.tup (.cons (.con (.int 0)) (.cons (.lst (.cons (.con (.int 1)) .nil)) .nil))) .nil)))))))) .nil))))) (.cons (.ret (.var 4)) .nil))))))))
def L18_0b : Sts := (.cons (.asg 8 (.ife (.op .lt (.var 7) (.con (.int 200))) (.ix (.var 6) (.var 7)) (.con (.int 0)))) (.cons (.ife (.nt (.call 10 none (.cons (.call 4 none (.cons (.var 0) (.cons (.var 1) (.cons (.var 7) .nil)))) (.cons (.var 8) .nil)))) (.cons (.ret (.con (.bl false))) .nil) .nil) .nil))
def L18_0i : It := (.seq (.op .add (.lst (.cons (.con (.int 0)) (.cons (.blt .max (.cons (.con (.int 0)) (.cons (.op .sub (.blt .len (.cons (.var 3) .nil)) (.con (.int 1))) .nil))) (.cons (.blt .len (.cons (.var 3) .nil)) (.cons (.con (.int 199)) (.cons (.con (.int 200)) .nil)))))) (.var 2)))
def L18_0 : St := .fr (.nm 7) L18_0i L18_0b
def d18 : Df where
  nm := "_law_is_number_right"
  ns := ["base", "number", "places", "figures", "power", "told", "longer", "place", "due"]
  np := 3
  m := none
  bd := (.cons (.asg 3 (.call 11 none (.cons (.var 0) (.cons (.var 1) .nil)))) (.cons (.asg 4 (.call 13 none (.cons (.var 0) (.cons (.var 3) .nil)))) (.cons (.asg 5 (.lst (.cons (.call 2 none (.cons (.var 0) (.cons (.var 1) .nil))) (.cons (.callK 2 none .nil [1, 0] (.cons (.var 1) (.cons (.var 0) .nil))) .nil)))) (.cons (.ife (.or (.nt (.call 10 none (.cons (.var 5) (.cons (.lst (.cons (.var 3) (.cons (.var 3) .nil))) .nil)))) (.nt (.isi .tuple (.ix (.var 5) (.con (.int 0)))))) (.cons (.ret (.con (.bl false))) .nil) .nil) (.cons (.asg 5 (.lst (.cons (.call 5 none (.cons (.var 0) (.cons (.var 1) .nil))) (.cons (.callK 5 none .nil [1, 0] (.cons (.var 1) (.cons (.var 0) .nil))) .nil)))) (.cons (.ife (.nt (.call 10 none (.cons (.var 5) (.cons (.lst (.cons (.var 4) (.cons (.var 4) .nil))) .nil)))) (.cons (.ret (.con (.bl false))) .nil) .nil) (.cons (.asg 6 (.op .add (.var 3) (.op .mul (.tup (.cons (.con (.int 0)) .nil)) (.op .sub (.con (.int 200)) (.blt .len (.cons (.var 3) .nil)))))) (.cons L18_0 (.cons (.asg 8 (.ife (.op .lt (.ix (.var 2) (.con (.int 0))) (.con (.int 200))) (.ix (.var 6) (.ix (.var 2) (.con (.int 0)))) (.con (.int 0)))) (.cons (.ife (.nt (.call 10 none (.cons (.callK 4 none .nil [2, 0, 1] (.cons (.ix (.var 2) (.con (.int 0))) (.cons (.var 0) (.cons (.var 1) .nil)))) (.cons (.var 8) .nil)))) (.cons (.ret (.con (.bl false))) .nil) .nil) (.cons (.asg 5 (.lst (.cons (.call 3 none (.cons (.var 0) (.cons (.var 3) .nil))) (.cons (.callK 3 none .nil [1, 0] (.cons (.var 6) (.cons (.var 0) .nil))) (.cons (.call 3 none (.cons (.var 0) (.cons (.op .add (.var 3) (.tup (.cons (.con (.int 0)) .nil))) .nil))) .nil))))) (.cons (.ret (.call 10 none (.cons (.var 5) (.cons (.op .mul (.lst (.cons (.var 1) .nil)) (.con (.int 3))) .nil)))) .nil))))))))))))
def d19 : Df where
  nm := "_law_is_row_right"
  ns := ["base", "row", "due", "longer", "told", "plain", "is_power"]
  np := 2
  m := none
  bd := (.cons (.asg 2 (.call 12 none (.cons (.var 0) (.cons (.var 1) .nil)))) (.cons (.asg 3 (.op .add (.var 1) (.op .mul (.tup (.cons (.con (.int 0)) .nil)) (.op .sub (.con (.int 200)) (.blt .len (.cons (.var 1) .nil)))))) (.cons (.asg 4 (.lst (.cons (.call 3 none (.cons (.var 0) (.cons (.var 1) .nil))) (.cons (.callK 3 none .nil [0, 1] (.cons (.var 0) (.cons (.var 1) .nil))) (.cons (.call 3 none (.cons (.var 0) (.cons (.var 3) .nil))) .nil))))) (.cons (.ife (.nt (.call 10 none (.cons (.var 4) (.cons (.op .mul (.lst (.cons (.var 2) .nil)) (.con (.int 3))) .nil)))) (.cons (.ret (.con (.bl false))) .nil) .nil) (.cons (.asg 5 (.call 2 none (.cons (.var 0) (.cons (.var 2) .nil)))) (.cons (.asg 6 (.op .eq (.blt .sum (.cons (.var 1) .nil)) (.con (.int 1)))) (.cons (.ife (.op .ne (.op .eq (.call 5 none (.cons (.var 0) (.cons (.var 2) .nil))) (.var 2)) (.or (.var 6) (.op .eq (.var 2) (.con (.int 0))))) (.cons (.ret (.con (.bl false))) .nil) .nil) (.cons (.ret (.an (.call 10 none (.cons (.var 5) (.cons (.sli false true (.var 1) (.con .non) (.blt .len (.cons (.var 5) .nil))) .nil))) (.call 10 none (.cons (.sli true false (.var 1) (.blt .len (.cons (.var 5) .nil)) (.con .non)) (.cons (.op .mul (.tup (.cons (.con (.int 0)) .nil)) (.op .sub (.blt .len (.cons (.var 1) .nil)) (.blt .len (.cons (.var 5) .nil)))) .nil))))) .nil))))))))
def L20_0b : Sts := (.cons (.par 4 5 (.blt .repr (.cons (.var 2) .nil)) (.call 16 none (.cons (.var 0) (.cons (.var 2) .nil)))) (.cons (.asg 3 (.lst (.cons (.call 6 none (.cons (.var 0) (.cons (.var 2) .nil))) (.cons (.callK 6 none .nil [1, 0] (.cons (.var 2) (.cons (.var 0) .nil))) .nil)))) (.cons (.ife (.or (.nt (.call 10 none (.cons (.var 3) (.cons (.lst (.cons (.var 5) (.cons (.var 5) .nil))) .nil)))) (.op .ne (.blt .repr (.cons (.var 2) .nil)) (.var 4))) (.cons (.ret (.con (.bl false))) .nil) .nil) .nil)))
def L20_0i : It := (.seq (.var 1))
def L20_0 : St := .fr (.nm 2) L20_0i L20_0b
def d20 : Df where
  nm := "_law_are_errors_right"
  ns := ["base", "values", "value", "told", "kept", "due"]
  np := 2
  m := none
  bd := (.cons L20_0 (.cons (.ret (.con (.bl true))) .nil))
def L21_1b : Sts := (.cons (.ife (.nt (.call 18 none (.cons (.var 10) (.cons (.var 11) (.cons (.var 5) .nil))))) (.cons (.ret (.con (.bl false))) .nil) .nil) .nil)
def L21_1i : It := (.seq (.var 4))
def L21_1 : St := .fr (.nm 11) L21_1i L21_1b
def L21_0b : Sts := (.cons L21_1 (.cons (.ife (.or (.nt (.call 19 none (.cons (.var 10) (.cons (.ix (.var 6) (.op .sub (.var 9) (.op .mul (.op .fdiv (.var 9) (.con (.int 2))) (.con (.int 2))))) .nil)))) (.an (.op .eq (.var 9) (.con (.int 2))) (.nt (.call 19 none (.cons (.var 10) (.cons (.var 7) .nil)))))) (.cons (.ret (.con (.bl false))) .nil) .nil) (.cons (.ife (.or (.nt (.call 20 none (.cons (.var 10) (.cons (.ix (.var 8) (.con (.int 0))) .nil)))) (.nt (.call 20 none (.cons (.var 10) (.cons (.ix (.var 8) (.con (.int 1))) .nil))))) (.cons (.ret (.con (.bl false))) .nil) .nil) .nil)))
def L21_0i : It := (.enu (.var 3))
def L21_0 : St := .fr (.tp [9, 10]) L21_0i L21_0b
def C21_2c : Ex := (.con (.bl true))
def C21_2e : Ex := (.call 17 (some 0) (.cons (.var 1) (.cons (.ix (.var 3) (.var 9)) (.cons (.ix (.var 6) (.var 9)) .nil))))
def C21_2i : It := (.rng (.cons (.con (.int 2)) .nil))
def C21_2 : Ex := .comp [9] (.nm 9) C21_2i C21_2c C21_2e
def C21_3c : Ex := (.con (.bl true))
def C21_3e : Ex := (.call 8 (some 0) (.cons (.var 1) (.cons (.con (.int 2)) .nil)))
def C21_3i : It := (.rng (.cons (.con (.int 9)) .nil))
def C21_3 : Ex := .comp [9] (.nm 9) C21_3i C21_3c C21_3e
def C21_4c : Ex := (.con (.bl true))
def C21_4e : Ex := (.call 15 (some 0) (.cons (.var 1) (.cons (.ix (.var 3) (.var 9)) .nil)))
def C21_4i : It := (.rng (.cons (.con (.int 2)) .nil))
def C21_4 : Ex := .comp [9] (.nm 9) C21_4i C21_4c C21_4e
def C21_5c : Ex := (.con (.bl true))
def C21_5e : Ex := (.call 14 (some 0) (.cons (.var 1) (.cons (.ix (.var 3) (.op .fdiv (.var 9) (.con (.int 3)))) .nil)))
def C21_5i : It := (.rng (.cons (.con (.int 6)) .nil))
def C21_5 : Ex := .comp [9] (.nm 9) C21_5i C21_5c C21_5e
def d21 : Df where
  nm := "law"
  ns := ["script", "bag", "first", "turns", "numbers", "places", "rows", "wide", "lots", "k", "base", "number"]
  np := 1
  m := none
  bd := (.cons (.asg 1 (.call 7 none (.cons (.var 0) .nil))) (.cons (.ife (.nt (.call 10 none (.cons (.tup (.cons (.con (.int 200)) (.cons (.con (.int 1000000000000000000000000000000)) .nil))) (.cons (.tup (.cons (.con (.int 200)) (.cons (.op .pow (.con (.int 10)) (.con (.int 30))) .nil))) .nil)))) (.cons (.ret (.con (.bl false))) .nil) .nil) (.cons (.asg 2 (.op .add (.con (.int 2)) (.call 8 (some 0) (.cons (.var 1) (.cons (.con (.int 2)) .nil))))) (.cons (.asg 3 (.lst (.cons (.var 2) (.cons (.op .sub (.con (.int 5)) (.var 2)) (.cons (.var 2) .nil))))) (.cons (.asg 4 (.op .add (.lst (.cons (.con (.int 0)) (.cons (.op .pow (.con (.int 10)) (.con (.int 30))) (.cons (.op .mul (.op .pow (.con (.int 2)) (.con (.int 64))) (.op .pow (.con (.int 2)) (.con (.int 35)))) (.cons (.op .pow (.con (.int 3)) (.con (.int 62))) .nil))))) C21_5)) (.cons (.asg 5 (.lst (.cons (.call 8 (some 0) (.cons (.var 1) (.cons (.con (.int 201)) .nil))) (.cons (.call 8 (some 0) (.cons (.var 1) (.cons (.con (.int 70)) .nil))) (.cons (.call 8 (some 0) (.cons (.var 1) (.cons (.con (.int 9)) .nil))) .nil))))) (.cons (.asg 6 C21_4) (.cons (.asg 7 (.sli false true (.op .mul (.blt .tuple (.cons (.op .add C21_3 (.lst (.cons (.call 8 (some 0) (.cons (.var 1) (.cons (.var 2) .nil))) (.cons (.op .sub (.var 2) (.con (.int 1))) .nil)))) .nil)) (.con (.int 19))) (.con .non) (.con (.int 200)))) (.cons (.asg 8 C21_2) (.cons L21_0 (.cons (.ret (.con (.bl true))) .nil)))))))))))
def P : Pg := ⟨[d0, d1, d2, d3, d4, d5, d6, d7, d8, d9, d10, d11, d12, d13, d14, d15, d16, d17, d18, d19, d20, d21], fun _ => .non⟩
def gls : List (Str × D) := [("MAX_LONG", .int 200), ("MAX_NUMBER", .int 1000000000000000000000000000000)]
def tops : List Nat := [3, 4, 6, 7, 8, 9, 10, 12, 13, 14, 15, 16, 17, 18, 19, 20, 21, 22, 23, 24, 25, 26]

theorem c0 : dOk P.ds gls d0 (topS 3) = true := by decide +kernel
theorem c1 : dOk P.ds gls d1 (topS 4) = true := by decide +kernel
theorem c2 : dOk P.ds gls d2 (topS 6) = true := by decide +kernel
theorem c3 : dOk P.ds gls d3 (topS 7) = true := by decide +kernel
theorem c4 : dOk P.ds gls d4 (topS 8) = true := by decide +kernel
theorem c5 : dOk P.ds gls d5 (topS 9) = true := by decide +kernel
theorem c6 : dOk P.ds gls d6 (topS 10) = true := by decide +kernel
theorem c7 : dOk P.ds gls d7 (topS 12) = true := by decide +kernel
theorem c8 : dOk P.ds gls d8 (topS 13) = true := by decide +kernel
theorem c9 : dOk P.ds gls d9 (topS 14) = true := by decide +kernel
theorem c10 : dOk P.ds gls d10 (topS 15) = true := by decide +kernel
theorem c11 : dOk P.ds gls d11 (topS 16) = true := by decide +kernel
theorem c12 : dOk P.ds gls d12 (topS 17) = true := by decide +kernel
theorem c13 : dOk P.ds gls d13 (topS 18) = true := by decide +kernel
theorem c14 : dOk P.ds gls d14 (topS 19) = true := by decide +kernel
theorem c15 : dOk P.ds gls d15 (topS 20) = true := by decide +kernel
theorem c16 : dOk P.ds gls d16 (topS 21) = true := by decide +kernel
theorem c17 : dOk P.ds gls d17 (topS 22) = true := by decide +kernel
theorem c18 : dOk P.ds gls d18 (topS 23) = true := by decide +kernel
theorem c19 : dOk P.ds gls d19 (topS 24) = true := by decide +kernel
theorem c20 : dOk P.ds gls d20 (topS 25) = true := by decide +kernel
theorem c21 : dOk P.ds gls d21 (topS 26) = true := by decide +kernel
end K01
end
section
set_option linter.all false
set_option maxRecDepth 100000
namespace K01
open PySem Fr
def isI : D → Bool
  | .int _ => true
  | _ => false
theorem r0 (n : Nat) (d : D) : runP P (n + 1) 0 [d] = some (.bl (isI d), none) := by
  rw [run_at (d := d0) rfl rfl]
  cases d <;> simp [d0, isI]
theorem isI_fz (d : D) : isI (fz d) = isI d := by cases d <;> simp [isI]
def within (lo hi : Int) : D → Bool
  | .int i => decide (lo ≤ i) && decide (i ≤ hi)
  | _ => false
theorem r1 (n : Nat) (d : D) (lo hi : Int) : runP P (n + 2) 1 [d, .int lo, .int hi] = some (.bl (within lo hi d), none) := by
  rw [run_at (d := d1) rfl rfl]
  cases d <;> simp [d1, r0, isI, twice, when', within]
  rename_i i
  by_cases h : lo ≤ i <;> simp [h]
/-- the figures of a number -/
def digs (b : Nat) : Nat → Nat → List Nat
  | 0, _ => []
  | f + 1, n => if n = 0 then [] else n % b :: digs b f (n / b)
theorem okb {b : Nat} (h : 2 ≤ b) (h3 : b ≤ 3) : okDiv (b : Int) = true := by
  have : b = 2 ∨ b = 3 := by omega
  rcases this with rfl | rfl <;> decide +kernel
theorem sz_line {n : Nat} (h : n ≤ 1000000) : n < sizeLine := Nat.lt_of_le_of_lt h (by decide)
theorem digs_len (b : Nat) : ∀ f n, (digs b f n).length ≤ f
  | 0, _ => by simp [digs]
  | f + 1, n => by
    unfold digs
    split
    · simp
    · simp [digs_len b f]
theorem half_lt {b n f : Nat} (hb : 2 ≤ b) (h : n < 2 ^ (f + 1)) : n / b < 2 ^ f := by
  apply Nat.div_lt_of_lt_mul
  calc n < 2 ^ (f + 1) := h
    _ = 2 * 2 ^ f := by rw [Nat.pow_succ]; omega
    _ ≤ b * 2 ^ f := Nat.mul_le_mul_right _ hb
theorem wh2 {F : Calls} {Gl : Nat → D} {b : Nat} (hb : 2 ≤ b) (h3 : b ≤ 3) : ∀ (f n : Nat) (xs : List D), n < 2 ^ f → xs.length + f ≤ 1000000 →
    goWh (ev F Gl L2_0c) (Fr.execs F Gl L2_0b) (f + 1) [some (.int b), some (.int n), some (.lst true xs)] = some (.nx, [some (.int b), some (.int 0), some (.lst true (xs ++ nn (digs b f n)))])
  | 0, n, xs, hn, hx => by
    have : n = 0 := by simpa using hn
    subst this
    rw [goWh_f (o := .v (.bl false)) (E1 := [some (.int b), some (.int 0), some (.lst true xs)]) (by simp [L2_0c]) (by simp)]
    simp [digs]
  | f + 1, n, xs, hn, hx => by
    unfold digs
    by_cases h0 : n = 0
    · subst h0
      rw [goWh_f (o := .v (.bl false)) (E1 := [some (.int b), some (.int 0), some (.lst true xs)]) (by simp [L2_0c]) (by simp)]
      simp
    · have hp : (0 : Int) < n := by omega
      have hp0 : 0 < n := by omega
      have ok := okb hb h3
      have hb0 : (0 : Int) < b := by omega
      have hb1 : 0 < b := by omega
      have hl := sz_line (n := xs.length) (by omega)
      rw [goWh_t (o := .v (.bl true)) (E1 := [some (.int b), some (.int n), some (.lst true xs)]) (E2 := [some (.int b), some (.int ((n / b : Nat) : Int)), some (.lst true (xs ++ [.int ((n % b : Nat) : Int)]))]) (by simp [L2_0c, hp0]) (by simp) (by simp [L2_0b, when', ok, hb1, hl])]
      rw [wh2 hb h3 f (n / b) _ (half_lt hb hn) (by simp; omega)]
      simp [h0]
theorem r2 (m : Nat) {b n : Nat} (hb : 2 ≤ b) (h3 : b ≤ 3) (hn : n < 2 ^ 400) : runP P (m + 1) 2 [.int b, .int n] = some (.tup (nn (digs b 400 n)), none) := by
  rw [run_at (d := d2) rfl rfl]
  have w : Fr.exec (runP P m) P.gl L2_0 [some (.int b), some (.int n), some (.lst true [])] = _ := wh_run (wh2 hb h3 400 n [] hn (by simp))
  simp [d2, w, nofs_ints, fzs_ints]
/-! ### a number's worth -/
def worth (b : Nat) : List Nat → Nat
  | [] => 0
  | x :: r => x + b * worth b r
theorem worth_app (b : Nat) : ∀ l r, worth b (l ++ r) = worth b l + b ^ l.length * worth b r
  | [], r => by simp [worth]
  | x :: l, r => by simp only [List.cons_append, worth, worth_app b l r, List.length_cons, Nat.pow_succ]; rw [Nat.mul_add, Nat.add_assoc, ← Nat.mul_assoc, Nat.mul_comm b (b ^ l.length)]
theorem worth_lt {b : Nat} (hb : 1 ≤ b) : ∀ {l : List Nat}, (∀ x ∈ l, x < b) → worth b l < b ^ l.length
  | [], _ => by simp [worth]
  | x :: r, h => by
    have h1 := h x (by simp)
    have h2 := worth_lt hb (l := r) fun y hy => h y (by simp [hy])
    simp only [worth, List.length_cons, Nat.pow_succ]
    have : b * (worth b r + 1) ≤ b * b ^ r.length := Nat.mul_le_mul_left b h2
    rw [Nat.mul_comm (b ^ r.length) b]
    rw [Nat.mul_add, Nat.mul_one] at this
    omega
set_option exponentiation.threshold 3000
theorem log2_lt {v k : Nat} (h : v < 2 ^ (k + 1)) : v.log2 ≤ k := by
  by_cases h0 : v = 0
  · subst h0; simp
  · have := (Nat.log2_lt h0).mpr h
    omega
theorem big1 : (2 : Nat) ^ 400 < 2 ^ 2000 := by decide +kernel
theorem big2 : 3 < (2 : Nat) ^ 2000 := by decide +kernel
theorem big_ok {v b : Nat} (hv : v < 2 ^ 2000) (hb : b < 2 ^ 2000) : bigMul (v : Int) (b : Int) = true := by
  have h1 := log2_lt (k := 1999) hv
  have h2 := log2_lt (k := 1999) hb
  simp only [bigMul, Int.natAbs_natCast, decide_eq_true_eq]
  omega
theorem pow_le2 {b k : Nat} (hb : b ≤ 3) (hk : k ≤ 400) : b ^ k ≤ 2 ^ 1000 := by
  calc b ^ k ≤ 4 ^ k := Nat.pow_le_pow_left (by omega) k
    _ ≤ 4 ^ 400 := Nat.pow_le_pow_right (by decide) hk
    _ ≤ 2 ^ 1000 := by decide +kernel
theorem hor {F : Calls} {Gl : Nat → D} {B : Sts} (hB : B = L3_0b ∨ B = L12_0b) {b : Nat} (hb : 2 ≤ b) (h3 : b ≤ 3) (fg : Option D) : ∀ (l done : List Nat) (o : Option D), (∀ x ∈ l.reverse ++ done, x < b) → l.length + done.length ≤ 400 →
    ∃ o', goFor (Fr.execs F Gl B) (.nm 3) (nn l) [some (.int b), fg, some (.int (worth b done)), o] = some (.nx, [some (.int b), fg, some (.int (worth b (l.reverse ++ done))), o'])
  | [], done, o, h, hl => ⟨o, by simp [goFor]⟩
  | x :: l, done, o, h, hl => by
    have hd : worth b done < 2 ^ 2000 := by
      have h1 := worth_lt (b := b) (by omega) (l := done) fun y hy => h y (by simp [hy])
      have h2 := pow_le2 (b := b) (k := done.length) h3 (by simp at hl; omega)
      have : 2 ^ 1000 ≤ 2 ^ 2000 := by decide +kernel
      omega
    have hk := big_ok (v := worth b done) (b := b) hd (Nat.lt_of_le_of_lt h3 big2)
    obtain ⟨o', ih⟩ := hor (F := F) (Gl := Gl) hB hb h3 fg l (x :: done) (some (.int x)) (by simpa using h) (by simp at hl ⊢; omega)
    refine ⟨o', ?_⟩
    rw [nn_cons, goFor_nx (E1 := [some (.int b), fg, some (.int (worth b done)), some (.int x)]) (E2 := [some (.int b), fg, some (.int (worth b (x :: done))), some (.int x)]) (by simp) ?_, ih]
    · simp
    · have e : (worth b done : Int) * b + x = ((worth b (x :: done) : Nat) : Int) := by
        simp only [worth]
        push_cast
        rw [Int.mul_comm, Int.add_comm]
      rcases hB with rfl | rfl <;> simp [L3_0b, L12_0b, when', hk, e]
theorem r3 (m : Nat) {b : Nat} (hb : 2 ≤ b) (h3 : b ≤ 3) {l : List Nat} (h : ∀ x ∈ l, x < b) (hl : l.length ≤ 400) : runP P (m + 1) 3 [.int b, .tup (nn l)] = some (.int (worth b l), none) := by
  rw [run_at (d := d3) rfl rfl]
  obtain ⟨o', w⟩ := hor (F := runP P m) (Gl := P.gl) (.inl rfl) hb h3 (some (.tup (nn l))) l.reverse [] none (by simpa using h) (by simpa using hl)
  have w2 : Fr.exec (runP P m) P.gl L3_0 [some (.int b), some (.tup (nn l)), some (.int 0), none] = _ := fr_run (l := nn l.reverse) (by simp [L3_0i, worth]) w
  simp [d3, w2]
theorem r12 (m : Nat) {b : Nat} (hb : 2 ≤ b) (h3 : b ≤ 3) {l : List Nat} (h : ∀ x ∈ l, x < b) (hl : l.length ≤ 400) : runP P (m + 1) 12 [.int b, .tup (nn l)] = some (.int (worth b l), none) := by
  rw [run_at (d := d12) rfl rfl]
  obtain ⟨o', w⟩ := hor (F := runP P m) (Gl := P.gl) (.inr rfl) hb h3 (some (.tup (nn l))) l.reverse [] none (by simpa using h) (by simpa using hl)
  have w2 : Fr.exec (runP P m) P.gl L12_0 [some (.int b), some (.tup (nn l)), some (.int 0), none] = _ := fr_run (l := nn l.reverse) (by simp [L12_0i, worth]) w
  simp [d12, w2]
theorem r4 (m : Nat) {b n : Nat} (hb : 2 ≤ b) (h3 : b ≤ 3) (hn : n < 2 ^ 400) (pl : Nat) : runP P (m + 2) 4 [.int b, .int n, .int pl] = some (.int ((digs b 400 n).getD pl 0 : Nat), none) := by
  rw [run_at (d := d4) rfl rfl]
  simp [d4, r2 m hb h3 hn]
  by_cases h : pl < (digs b 400 n).length
  · simp [h, ixN_nat, List.getD]
  · have h' : (digs b 400 n).length ≤ pl := by omega
    simp [h, List.getD, List.getElem?_eq_none h']
/-! ### powers -/
def pwr (b : Nat) : Nat → Nat → Nat
  | 0, _ => 1
  | f + 1, n => if n % b = 0 then b * pwr b f (n / b) else 1
theorem wh5 {F : Calls} {Gl : Nat → D} {b : Nat} (hb : 2 ≤ b) (h3 : b ≤ 3) {n : Nat} (hn : n < 2 ^ 400) (h0 : 0 < n) : ∀ (f u m : Nat), n = u * m → m < 2 ^ f →
    goWh (ev F Gl L5_0c) (Fr.execs F Gl L5_0b) (f + 1) [some (.int b), some (.int n), some (.int u)] = some (.nx, [some (.int b), some (.int n), some (.int (u * pwr b f m : Nat))])
  | 0, u, m, e, hm => by
    have : m = 0 := by simpa using hm
    subst this
    simp at e
    omega
  | f + 1, u, m, e, hm => by
    have hu : 0 < u := by
      rcases Nat.eq_zero_or_pos u with z | z
      · rw [z] at e; simp at e; omega
      · exact z
    have hm0 : 0 < m := by
      rcases Nat.eq_zero_or_pos m with z | z
      · rw [z] at e; simp at e; omega
      · exact z
    have hun : u ≤ n := by rw [e]; exact Nat.le_mul_of_pos_right _ hm0
    have hk : bigMul (u : Int) (b : Int) = true := big_ok (Nat.lt_of_le_of_lt hun (Nat.lt_trans hn big1)) (Nat.lt_of_le_of_lt h3 big2)
    have hub : (0 : Int) < (u : Int) * b := Int.mul_pos (by omega) (by omega)
    have emod : (n : Int) % ((u : Int) * b) = ((u * (m % b) : Nat) : Int) := by
      rw [e, ← Nat.mul_mod_mul_left u m b]
      push_cast
      rfl
    unfold pwr
    by_cases hz : m % b = 0
    · have hc : ev F Gl L5_0c [some (.int b), some (.int n), some (.int u)] = some (.v (.bl true), [some (.int b), some (.int n), some (.int u)]) := by
        simp [L5_0c, when', hk, hub, emod, hz]
      rw [goWh_t (E2 := [some (.int b), some (.int n), some (.int ((u * b : Nat) : Int))]) hc (by simp) (by simp [L5_0b, when', hk])]
      have em : n = (u * b) * (m / b) := by
        rw [Nat.mul_assoc, Nat.mul_div_cancel' (Nat.dvd_of_mod_eq_zero hz)]; exact e
      rw [wh5 hb h3 hn h0 f (u * b) (m / b) em (half_lt hb hm)]
      simp [hz, Nat.mul_assoc]
    · have hne : ¬ u = 0 := by omega
      have hc : ev F Gl L5_0c [some (.int b), some (.int n), some (.int u)] = some (.v (.bl false), [some (.int b), some (.int n), some (.int u)]) := by
        have : ¬ ((u * (m % b) : Nat) : Int) = 0 := by
          have : u * (m % b) ≠ 0 := Nat.mul_ne_zero hne hz
          omega
        simp only [Int.natCast_mul] at emod this
        simp [L5_0c, when', hk, hub, emod, -Int.natCast_emod]
        exact ⟨hne, hz⟩
      rw [goWh_f hc (by simp)]
      simp [hz]
def pw (b n : Nat) : Nat := if n = 0 then 0 else pwr b 400 n
theorem r5 (m : Nat) {b n : Nat} (hb : 2 ≤ b) (h3 : b ≤ 3) (hn : n < 2 ^ 400) : runP P (m + 1) 5 [.int b, .int n] = some (.int (pw b n : Nat), none) := by
  rw [run_at (d := d5) rfl rfl]
  unfold pw
  by_cases h0 : n = 0
  · subst h0
    simp [d5, when']
  · have w : Fr.exec (runP P m) P.gl L5_0 [some (.int b), some (.int n), some (.int (1 : Nat))] = _ := wh_run (wh5 hb h3 hn (by omega) 400 1 n (by simp) hn)
    simp at w
    simp [d5, when', h0, w]
/-! ### the law's own figures and power -/
theorem fr11 {F : Calls} {Gl : Nat → D} {b : Nat} (hb : 2 ≤ b) (h3 : b ≤ 3) {n0 : Option D} : ∀ (k : List D) (n : Nat) (xs : List D) (o : Option D), n < 2 ^ k.length → k.length ≤ 399 → xs.length + k.length ≤ 1000000 →
    ∃ o', goFor (Fr.execs F Gl L11_0b) (.nm 2) (k ++ [.int 399]) [some (.int b), n0, o, some (.lst true xs), some (.int n)] = some (.nx, [some (.int b), n0, o', some (.lst true (xs ++ nn (digs b k.length n))), some (.int 0)])
  | [], n, xs, o, hn, hk, hx => by
    have : n = 0 := by simpa using hn
    subst this
    refine ⟨some (.int 399), ?_⟩
    rw [List.nil_append, goFor_brk (E1 := [some (.int b), n0, some (.int 399), some (.lst true xs), some (.int 0)]) (E2 := [some (.int b), n0, some (.int 399), some (.lst true xs), some (.int 0)]) (by simp) (by simp [L11_0b])]
    simp [digs]
  | x :: k, n, xs, o, hn, hk, hx => by
    unfold digs
    by_cases h0 : n = 0
    · subst h0
      refine ⟨some x, ?_⟩
      rw [List.cons_append, goFor_brk (E1 := [some (.int b), n0, some x, some (.lst true xs), some (.int 0)]) (E2 := [some (.int b), n0, some x, some (.lst true xs), some (.int 0)]) (by simp) (by simp [L11_0b])]
      simp
    · have ok := okb hb h3
      have hl := sz_line (n := xs.length) (by simp at hx; omega)
      have hdm : (n : Int) - (n : Int) / b * b = ((n % b : Nat) : Int) := by
        have := Nat.div_add_mod n b
        have h2 : (n : Int) = ((b * (n / b) + n % b : Nat) : Int) := by rw [this]
        push_cast at h2 ⊢
        rw [Int.mul_comm]
        omega
      have hm : bigMul ((n : Int) / b) (b : Int) = true := by
        have : ((n : Int) / b) = ((n / b : Nat) : Int) := by simp
        rw [this]
        refine big_ok (Nat.lt_of_le_of_lt (Nat.div_le_self n b) (Nat.lt_of_lt_of_le hn ?_)) (Nat.lt_of_le_of_lt h3 big2)
        exact Nat.pow_le_pow_right (by decide) (by omega)
      obtain ⟨o', ih⟩ := fr11 (F := F) (Gl := Gl) hb h3 (n0 := n0) k (n / b) (xs ++ [.int ((n % b : Nat) : Int)]) (some x) (half_lt hb hn) (by simp at hk; omega) (by simp at hx ⊢; omega)
      refine ⟨o', ?_⟩
      rw [List.cons_append, goFor_nx (E1 := [some (.int b), n0, some x, some (.lst true xs), some (.int n)]) (E2 := [some (.int b), n0, some x, some (.lst true (xs ++ [.int ((n % b : Nat) : Int)])), some (.int ((n / b : Nat) : Int))]) (by simp) ?_, ih]
      · simp [h0]
      · have h0' : ¬ (n : Int) = 0 := by omega
        simp [L11_0b, h0, when', ok, hm, hdm, hl]
theorem frng1 {k : Nat} (h : k ≤ 1000000) : frng [.int (k : Nat)] = some ((List.range k).map fun j => D.int (0 + (j : Nat))) := by
  have h1 : decide ((-(2 ^ 62) : Int) ≤ (k : Nat)) = true := decide_eq_true (by omega)
  have h2 : decide (((k : Nat) : Int) < 2 ^ 62) = true := decide_eq_true (by omega)
  simp only [frng, okRng, h1, h2, when', Bool.and_self, if_true, Int.toNat_natCast]
theorem r11 (m : Nat) {b n : Nat} (hb : 2 ≤ b) (h3 : b ≤ 3) (hn : n < 2 ^ 399) : runP P (m + 1) 11 [.int b, .int n] = some (.tup (nn (digs b 399 n)), none) := by
  rw [run_at (d := d11) rfl rfl]
  have hl : frng [.int 400] = some (((List.range 399).map fun k => D.int (0 + (k : Nat))) ++ [.int 399]) := by
    have e : List.range 400 = List.range 399 ++ [399] := List.range_succ
    have h := frng1 (k := 400) (by decide)
    rw [e, List.map_append] at h
    exact h
  obtain ⟨o', w⟩ := fr11 (F := runP P m) (Gl := P.gl) hb h3 (n0 := some (.int n)) ((List.range 399).map fun k => D.int (0 + (k : Nat))) n [] none (by simpa using hn) (by simp) (by simp)
  have w2 : Fr.exec (runP P m) P.gl L11_0 [some (.int b), some (.int n), none, some (.lst true []), some (.int n)] = _ := fr_run (l := ((List.range 399).map fun k => D.int (0 + (k : Nat))) ++ [.int 399]) (by simp [L11_0i, hl]) w
  simp [d11, w2]
theorem digs_more (b : Nat) (hb : 2 ≤ b) : ∀ (f n : Nat), n < 2 ^ f → digs b (f + 1) n = digs b f n
  | 0, n, h => by
    have : n = 0 := by simpa using h
    subst this
    simp [digs]
  | f + 1, n, h => by
    show (if n = 0 then [] else n % b :: digs b (f + 1) (n / b)) = (if n = 0 then [] else n % b :: digs b f (n / b))
    rw [digs_more b hb f (n / b) (half_lt hb h)]
theorem pw_zero (b : Nat) : pw b 0 = 0 := rfl
def own (b : Nat) : List Nat → Nat → Nat
  | [], _ => 0
  | x :: r, p => if x ≠ 0 then p else own b r (p * b)
theorem fr13 {F : Calls} {Gl : Nat → D} {b : Nat} (hb : 2 ≤ b) (h3 : b ≤ 3) {fg : Option D} : ∀ (l : List Nat) (k : Nat) (o : Option D), k + l.length ≤ 400 →
    ∃ r o1 o2, goFor (Fr.execs F Gl L13_0b) (.nm 3) (nn l) [some (.int b), fg, some (.int (b ^ k : Nat)), o] = some (r, [some (.int b), fg, o1, o2]) ∧ ((r = .nx ∧ own b l (b ^ k) = 0) ∨ r = .ret (.int (own b l (b ^ k) : Nat)))
  | [], k, o, h => ⟨.nx, some (.int (b ^ k : Nat)), o, by simp [goFor], .inl ⟨rfl, rfl⟩⟩
  | x :: l, k, o, h => by
    by_cases hx : x = 0
    · subst hx
      obtain ⟨r, o1, o2, ih, hr⟩ := fr13 (F := F) (Gl := Gl) hb h3 (fg := fg) l (k + 1) (some (.int 0)) (by simp at h; omega)
      have hk : bigMul ((b ^ k : Nat) : Int) (b : Int) = true := big_ok (Nat.lt_of_le_of_lt (pow_le2 h3 (by simp at h; omega)) (by decide +kernel)) (Nat.lt_of_le_of_lt h3 big2)
      refine ⟨r, o1, o2, ?_, by simpa [own, Nat.pow_succ] using hr⟩
      rw [nn_cons, goFor_nx (E1 := [some (.int b), fg, some (.int (b ^ k : Nat)), some (.int 0)]) (E2 := [some (.int b), fg, some (.int (b ^ (k + 1) : Nat)), some (.int 0)]) (by simp) ?_]
      · exact ih
      · have hk' : bigMul ((b : Int) ^ k) (b : Int) = true := by simpa using hk
        simp [L13_0b, when', Nat.pow_succ, hk']
    · refine ⟨.ret (.int (b ^ k : Nat)), none, some (.int x), ?_, .inr (by simp [own, hx])⟩
      rw [nn_cons, goFor_ret (E1 := [some (.int b), fg, some (.int (b ^ k : Nat)), some (.int x)]) (E2 := [some (.int b), fg, none, some (.int x)]) (d := .int (b ^ k : Nat)) (by simp) ?_]
      simp [L13_0b, hx]
theorem r13 (m : Nat) {b : Nat} (hb : 2 ≤ b) (h3 : b ≤ 3) {l : List Nat} (hl : l.length ≤ 400) : runP P (m + 1) 13 [.int b, .tup (nn l)] = some (.int (own b l 1 : Nat), none) := by
  rw [run_at (d := d13) rfl rfl]
  obtain ⟨r, o1, o2, w, hr⟩ := fr13 (F := runP P m) (Gl := P.gl) hb h3 (fg := some (.tup (nn l))) l 0 none (by omega)
  have w' : goFor (Fr.execs (runP P m) P.gl L13_0b) (.nm 3) (nn l) [some (.int b), some (.tup (nn l)), some (.int 1), none] = some (r, [some (.int b), some (.tup (nn l)), o1, o2]) := by simpa using w
  have w2 : Fr.exec (runP P m) P.gl L13_0 [some (.int b), some (.tup (nn l)), some (.int 1), none] = _ := fr_run (l := nn l) (by simp [L13_0i]) w'
  rcases hr with ⟨rfl, hr⟩ | rfl
  · simp [d13, w2]
    have : own b l 1 = 0 := by simpa using hr
    simp [this]
  · simp [d13, w2]
theorem pwr_zero (b : Nat) : ∀ f, 1 ≤ pwr b f 0 ∨ b = 0
  | 0 => .inl (by simp [pwr])
  | f + 1 => by
    rcases pwr_zero b f with h | h
    · rcases Nat.eq_zero_or_pos b with z | z
      · exact .inr z
      · refine .inl ?_
        simp only [pwr, Nat.zero_mod, if_true, Nat.zero_div]
        exact Nat.mul_pos z h
    · exact .inr h
/-! ### two things are alike -/
def okR (d : D) : Prop := PyData.showable (py d) = true ∧ (PyData.shown (py d)).length ≤ sizeLine ∧ PyData.depth (py d) ≤ 40
theorem repr_ok {d : D} (h : okR d) : b1 .repr d = some (.str (PyData.shown (py d))) := by
  simp [b1, when', h.1, h.2.1, h.2.2]
mutual
theorem py_fz : ∀ d : D, py (fz d) = py d
  | .non => rfl | .bl _ => rfl | .int _ => rfl | .str _ => rfl
  | .tup xs => by simp only [fz, py]; rw [pys_fz xs]
  | .lst _ xs => by simp only [fz, py]; rw [pys_fz xs]
  | .dic _ ks vs => by simp only [fz, py]; rw [pyk_fz ks vs]
theorem pys_fz : ∀ l : List D, pys (fzs l) = pys l
  | [] => rfl
  | d :: r => by simp only [fzs, pys]; rw [py_fz d, pys_fz r]
theorem pyk_fz : ∀ (ks : List L2.Key) (l : List D), pyk ks (fzs l) = pyk ks l
  | [], _ => by simp [pyk]
  | _ :: _, [] => rfl
  | k :: ks, d :: r => by simp only [fzs, pyk]; rw [py_fz d, pyk_fz ks r]
end
def isTup : D → Bool
  | .tup _ => true
  | _ => false
theorem isTup_eq (d : D) : isTy .tuple (fz d) = isTup d := by cases d <;> simp [isTup]
theorem r10 (m : Nat) {a b : D} (ha : okR a) (hb : okR b) : runP P (m + 1) 10 [a, b] = some (.bl (PyData.shown (py a) == PyData.shown (py b) && isTup a == isTup b), none) := by
  rw [run_at (d := d10) rfl rfl]
  have q : ∀ d : D, isTy .tuple (fz d) = isTup d := isTup_eq
  obtain ⟨a1, a2, a3⟩ := ha
  obtain ⟨b1, b2, b3⟩ := hb
  have nb : ∀ (x : Bool), nof (.bl x) = true := fun _ => rfl
  simp [d10, when', py_fz, a1, a2, a3, b1, b2, b3, isTup_eq, -isTy]
  by_cases e : PyData.shown (py a) = PyData.shown (py b) <;> simp [e]
/-! ### the bag -/
def bagD (c : List Nat) (x y : Nat) : D := .lst true [.lst true (nn c), .int x, .int y]
theorem plain_nn : ∀ c : List Nat, plains (nn c) = true
  | [] => rfl
  | a :: r => by simp [plains, Fr.plain, plain_nn r]
theorem pys_nn (c : List Nat) : pys (nn c) = c.map fun x => PyData.int (x : Nat) := by
  induction c with
  | nil => rfl
  | cons a r ih => simp [pys, py, ih]
theorem lay_nn : ∀ c : List Nat, PyData.canLayAll0 (c.map fun x => PyData.int (x : Nat)) = true
  | [] => rfl
  | a :: r => by
    simp only [List.map_cons, PyData.canLayAll0, lay_nn r]
    simp [PyData.canLay0]
theorem depth_nn (c : List Nat) : PyData.depth (.list (c.map fun x => PyData.int (x : Nat))) ≤ 2 := by
  have h : PyData.depthAll (c.map fun x => PyData.int (x : Nat)) = 0 := by
    induction c with
    | nil => rfl
    | cons a r ih => simp [PyData.depthAll, PyData.depth, ih]
  simp [PyData.depth, h]
theorem ne_nil (o o' : Bool) (c : List Nat) : f2 .ne (.lst o (nn c)) (.lst o' []) = some (.bl (!c.isEmpty)) := by
  have h1 : SeqAt.shaped (py (.lst o (nn c))) = true := by
    simp only [SeqAt.shaped, py, pys_nn, Bool.and_eq_true, decide_eq_true_eq]
    exact ⟨by simp only [PyData.canLay0]; exact lay_nn c, Nat.le_trans (depth_nn c) (by decide)⟩
  have h2 : SeqAt.shaped (py (.lst o' [])) = true := by simp [SeqAt.shaped, py, pys, PyData.canLay0, PyData.canLayAll0, PyData.depth, PyData.depthAll]
  have h3 : Fr.plain (.lst o (nn c)) = true := by simp only [Fr.plain]; exact plain_nn c
  have h4 : Fr.plain (.lst o' []) = true := rfl
  have h5 : PyData.eqv (py (.lst o (nn c))) (py (.lst o' [])) = c.isEmpty := by
    cases c <;> simp [py, pys, PyData.eqv, PyData.eqvAll]
  show when' (Fr.plain _ && Fr.plain _ && SeqAt.shaped _ && SeqAt.shaped _) (D.bl (!PyData.eqv _ _)) = _
  rw [h1, h2, h3, h4, h5]
  exact when'_true rfl
theorem pow9 : okPow 10 9 = true := by decide +kernel
theorem wh8 {F : Calls} {Gl : Nat → D} (y : Nat) (be : Option D) : ∀ (k : Nat) (c : List Nat) (x : Nat) (o2 o3 : Option D), c.length = k →
    ∃ c' x' o', goWh (ev F Gl L8_0c) (Fr.execs F Gl L8_0b) (k + 1) [some (bagD c x y), be, o2, o3] = some (.nx, [some (bagD c' x' y), be, o', o3])
  | k, c, x, o2, o3, hk => by
    by_cases hx : x = 0
    · subst hx
      rcases List.eq_nil_or_concat c with rfl | ⟨c0, a, rfl⟩
      · refine ⟨[], 0, o2, ?_⟩
        rw [goWh_f (o := .v (.bl false)) (E1 := [some (bagD [] 0 y), be, o2, o3]) ?_ (by simp)]
        have := ne_nil false false []
        simp at this
        simp [L8_0c, bagD, ixN, L2.ixN, this]
      · cases k with
        | zero => simp at hk
        | succ k =>
          obtain ⟨c', x', o', ih⟩ := wh8 (F := F) (Gl := Gl) y be k c0 (if 1000000000 < a then a else 0) (some (.int a)) o3 (by simpa using hk)
          refine ⟨c', x', o', ?_⟩
          have := ne_nil false false (c0 ++ [a])
          simp at this
          rw [goWh_t (o := .v (.bl true)) (E1 := [some (bagD (c0 ++ [a]) 0 y), be, o2, o3]) (E2 := [some (bagD c0 (if 1000000000 < a then a else 0) y), be, some (.int a), o3]) ?_ (by simp) ?_]
          · exact ih
          · simp [L8_0c, bagD, ixN, L2.ixN, this]
          · by_cases ha : 1000000000 < a
            · have ha' : (1000000000 : Int) < a := by omega
              simp [L8_0b, bagD, ixN, L2.ixN, when', pow9, ha, ha']
            · have ha' : ¬ (1000000000 : Int) < a := by omega
              simp [L8_0b, bagD, ixN, L2.ixN, when', pow9, ha, ha']
    · refine ⟨c, x, o2, ?_⟩
      rw [goWh_f (o := .v (.bl false)) (E1 := [some (bagD c x y), be, o2, o3]) (by simp [L8_0c, bagD, ixN, L2.ixN, hx]) (by simp)]
theorem b31 : (2 : Nat) ^ 31 < 2 ^ 2000 := by decide +kernel
theorem big31 {u v : Nat} (hu : u < 2 ^ 31) (hv : v < 2 ^ 31) : bigMul (u : Int) (v : Int) = true := big_ok (Nat.lt_trans hu b31) (Nat.lt_trans hv b31)
theorem ok7 : okDiv 7 = true := by decide +kernel
theorem r8 (m : Nat) (c : List Nat) (x y : Nat) (hy : y < 2 ^ 31) {be : Nat} (hb : 1 ≤ be) (hb2 : be < 2 ^ 2000) : ∃ v c' x' y', v < be ∧ y' < 2 ^ 31 ∧ runP P (m + 1) 8 [bagD c x y, .int be] = some (.int (v : Nat), some (bagD c' x' y')) := by
  obtain ⟨c', x', o', w⟩ := wh8 (F := runP P m) (Gl := P.gl) y (some (.int be)) c.length c x none none rfl
  have w2 : Fr.exec (runP P m) P.gl L8_0 [some (bagD c x y), some (.int be), none, none] = _ := wh_run w
  have okd : okDiv (be : Int) = true := by
    simp only [okDiv, Bool.and_eq_true, decide_eq_true_eq, Int.natAbs_natCast]
    refine ⟨by omega, ?_⟩
    have := log2_lt (k := 1999) hb2
    omega
  have hp : (0 : Int) < be := by omega
  have hb0 : 0 < be := hb
  unfold bagD at w2
  by_cases hx : 0 < x'
  · refine ⟨x' % be, c', x' / be, y, Nat.mod_lt _ hb, hy, ?_⟩
    have hx' : (0 : Int) < x' := by omega
    rw [run_at (d := d8) rfl rfl]
    simp [d8, w2, bagD, ixN, L2.ixN, hx', when', okd, hb0, hx]
  · have x0 : x' = 0 := by omega
    subst x0
    have k1 : bigMul (y : Int) 48271 = true := big31 (v := 48271) hy (by decide)
    generalize hz : (y * 48271 + 11) % 2147483647 = z
    have hz2 : z < 2 ^ 31 := by rw [← hz]; exact Nat.lt_trans (Nat.mod_lt _ (by decide)) (by decide)
    have k2 : bigMul (z : Int) (z : Int) = true := big31 hz2 hz2
    have ez : ((y : Int) * 48271 + 11) % 2147483647 = (z : Int) := by omega
    refine ⟨z * z % 2147483629 / 7 % be, c', 0, z, Nat.mod_lt _ hb, hz2, ?_⟩
    rw [run_at (d := d8) rfl rfl]
    simp [d8, w2, bagD, ixN, L2.ixN, when', okd, hb0, k1, ez, k2, ok7]
theorem r8i (m : Nat) (c : List Nat) (x y : Nat) (hy : y < 2 ^ 31) {B : Int} (hb : 1 ≤ B) (hb2 : B < 2 ^ 1999) : ∃ (v : Nat) (c' : List Nat) (x' y' : Nat), (v : Int) < B ∧ y' < 2 ^ 31 ∧ runP P (m + 1) 8 [bagD c x y, .int B] = some (.int (v : Nat), some (bagD c' x' y')) := by
  obtain ⟨n, rfl⟩ := Int.eq_ofNat_of_zero_le (by omega : 0 ≤ B)
  have h2 : n < 2 ^ 2000 := by
    have : n < 2 ^ 1999 := by exact_mod_cast hb2
    exact Nat.lt_trans this (by decide +kernel)
  obtain ⟨v, c', x', y', h1, h3, h4⟩ := r8 m c x y hy (be := n) (by omega) h2
  exact ⟨v, c', x', y', by omega, h3, h4⟩
@[simp] theorem nof_bag (c : List Nat) (x y : Nat) : nof (bagD c x y) = true := by simp [bagD]
theorem i1999 {n : Nat} (h : n ≤ 2 ^ 1900) : ((n : Nat) : Int) < 2 ^ 1999 := by
  have : n < 2 ^ 1999 := Nat.lt_of_le_of_lt h (by decide +kernel)
  exact_mod_cast this
theorem r9 (m : Nat) (c : List Nat) (x y : Nat) (hy : y < 2 ^ 31) {xs : List D} (hx : xs ≠ []) (hl : xs.length ≤ 1000) : ∃ (v : D) (c' : List Nat) (x' y' : Nat), v ∈ fzs xs ∧ y' < 2 ^ 31 ∧ runP P (m + 2) 9 [bagD c x y, .lst false xs] = some (v, some (bagD c' x' y')) := by
  have hlen : 1 ≤ xs.length := List.length_pos_iff.mpr hx
  obtain ⟨v, c', x', y', h1, h2, h3⟩ := r8i m c x y hy (B := xs.length) (by omega) (i1999 (Nat.le_trans hl (by decide +kernel)))
  have hv : v < xs.length := by omega
  have hfl : (fzs xs).length = xs.length := by rw [fzs_map]; simp
  have hv' : v < (fzs xs).length := by omega
  refine ⟨(fzs xs)[v], c', x', y', List.getElem_mem hv', h2, ?_⟩
  rw [run_at (d := d9) rfl rfl]
  have hg : (fzs xs)[v]? = some (fzs xs)[v] := List.getElem?_eq_getElem hv'
  generalize (fzs xs)[v] = r at hg ⊢
  simp [d9, h3, hfl, ixN_nat hv, hg]
  cases nof r <;> simp
end K01
end
section
set_option linter.all false
set_option maxRecDepth 100000
set_option exponentiation.threshold 3000
namespace K01
open PySem Fr
/-! ### numbers -/
theorem p30 : okPow 10 30 = true := by decide +kernel
def T30 : Nat := 10 ^ 30
theorem pow_big {b k : Nat} (hb : b ≤ 3) (hk : k ≤ 400) : b ^ k < 2 ^ 2000 := Nat.lt_of_le_of_lt (pow_le2 hb hk) (by decide +kernel)
theorem fr14 {F : Calls} {Gl : Nat → D} {b : Nat} (h3 : b ≤ 3) {bag way : Option D} : ∀ (l : List D) (k : Nat) (o : Option D), k + l.length ≤ 400 →
    ∃ o', goFor (Fr.execs F Gl L14_0b) (.nm 4) l [bag, some (.int b), way, some (.int (b ^ k : Nat)), o] = some (.nx, [bag, some (.int b), way, some (.int (b ^ (k + l.length) : Nat)), o'])
  | [], k, o, h => ⟨o, by simp [goFor]⟩
  | x :: l, k, o, h => by
    obtain ⟨o', ih⟩ := fr14 (F := F) (Gl := Gl) h3 (bag := bag) (way := way) l (k + 1) (some x) (by simp at h; omega)
    have hk : bigMul ((b ^ k : Nat) : Int) (b : Int) = true := big_ok (pow_big h3 (by simp at h; omega)) (Nat.lt_of_le_of_lt h3 big2)
    have hk' : bigMul ((b : Int) ^ k) (b : Int) = true := by simpa using hk
    refine ⟨o', ?_⟩
    rw [goFor_nx (E1 := [bag, some (.int b), way, some (.int (b ^ k : Nat)), some x]) (E2 := [bag, some (.int b), way, some (.int (b ^ (k + 1) : Nat)), some x]) (by simp) (by simp [L14_0b, when', hk', Nat.pow_succ]), ih]
    simp [Nat.add_assoc, Nat.add_comm 1]
theorem pw_way (m : Nat) (c : List Nat) (x y : Nat) (hy : y < 2 ^ 31) {b : Nat} (hb : b = 2 ∨ b = 3) : ∃ (k : Nat) (c2 : List Nat) (x2 y2 : Nat), (b ^ k ≤ 2 ^ 99 ∧ k ≤ 100) ∧ y2 < 2 ^ 31 ∧ runP P (m + 1) 8 [bagD c x y, .int (if b = 2 then 100 else 63)] = some (.int (k : Nat), some (bagD c2 x2 y2)) := by
  rcases hb with rfl | rfl
  · obtain ⟨v, c2, x2, y2, g1, g2, g3⟩ := r8i m c x y hy (B := 100) (by decide) (by decide +kernel)
    exact ⟨v, c2, x2, y2, ⟨Nat.pow_le_pow_right (by decide) (by omega), by omega⟩, g2, by simpa using g3⟩
  · obtain ⟨v, c2, x2, y2, g1, g2, g3⟩ := r8i m c x y hy (B := 63) (by decide) (by decide +kernel)
    have h62 : (3 : Nat) ^ 62 ≤ 2 ^ 99 := by decide +kernel
    exact ⟨v, c2, x2, y2, ⟨Nat.le_trans (Nat.pow_le_pow_right (n := 3) (by decide) (show v ≤ 62 by omega)) h62, by omega⟩, g2, by simpa using g3⟩
theorem it_rng1 {F : Calls} {Gl : Nat → D} {E E1 : Fr.Env} {as : Exs} {os : List Opd} {ds l : List D} (h : evs F Gl as E = some (os, E1)) (hf : Fr.fetch E1 os = some ds) (hr : frng ds = some l) : evIt F Gl (.rng as) E = some (l, E1) := by
  simp only [evIt, h, hf, hr, Option.bind_some, Option.map_some]
theorem it14 {F : Calls} {Gl : Nat → D} {b k : Nat} {bag bag2 : D} (hb : b = 2 ∨ b = 3) (hk : k ≤ 100) (hn : nof bag2 = true) (g3 : F 8 [bag, .int (if b = 2 then 100 else 63)] = some (.int (k : Nat), some bag2)) (w : Nat) (o3 o4 : Option D) :
    evIt F Gl L14_0i [some bag, some (.int b), some (.int w), o3, o4] = some ((List.range k).map fun j => D.int (0 + (j : Nat)), [some bag2, some (.int b), some (.int w), o3, o4]) := by
  refine it_rng1 (os := [.v (.int (k : Nat))]) (ds := [.int (k : Nat)]) ?_ rfl (frng1 (by omega))
  rcases hb with rfl | rfl
  · simp only [if_true] at g3
    simp [g3, hn]
  · simp at g3
    simp [g3, hn]
theorem pwr_run (m : Nat) (c1 : List Nat) (x1 y1 : Nat) (h2 : y1 < 2 ^ 31) {b : Nat} (hb : b = 2 ∨ b = 3) (w : Nat) : ∃ (k : Nat) (c2 : List Nat) (x2 y2 : Nat) (o' : Option D), (b ^ k ≤ 2 ^ 99 ∧ k ≤ 100) ∧ y2 < 2 ^ 31 ∧
    Fr.exec (runP P (m + 1)) P.gl L14_0 [some (bagD c1 x1 y1), some (.int b), some (.int w), some (.int 1), none] = some (.nx, [some (bagD c2 x2 y2), some (.int b), some (.int w), some (.int ((b : Int) ^ k)), o']) := by
  obtain ⟨k, c2, x2, y2, g1, g2, g3⟩ := pw_way m c1 x1 y1 h2 hb
  obtain ⟨o', wl⟩ := fr14 (F := runP P (m + 1)) (Gl := P.gl) (b := b) (by omega) (bag := some (bagD c2 x2 y2)) (way := some (.int w)) ((List.range k).map fun j => D.int (0 + (j : Nat))) 0 none (by simp; omega)
  exact ⟨k, c2, x2, y2, o', g1, g2, fr_run (it14 hb g1.2 (nof_bag _ _ _) g3 w _ _) (by simpa using wl)⟩
theorem tt99 : (2 : Nat) ^ 99 + 2 ≤ 10 ^ 30 := by decide +kernel
theorem min_cast (q : Nat) : ((min (10 ^ 30) q : Nat) : Int) = if (q : Int) < 10 ^ 30 then (q : Int) else 10 ^ 30 := by
  split <;> omega
theorem r14 (m : Nat) (c : List Nat) (x y : Nat) (hy : y < 2 ^ 31) {b : Nat} (hb : b = 2 ∨ b = 3) : ∃ (v : Nat) (c' : List Nat) (x' y' : Nat), v ≤ 10 ^ 30 ∧ y' < 2 ^ 31 ∧ runP P (m + 2) 14 [bagD c x y, .int b] = some (.int (v : Nat), some (bagD c' x' y')) := by
  obtain ⟨w, c1, x1, y1, h1, h2, h3⟩ := r8i m c x y hy (B := 6) (by decide) (by decide +kernel)
  rw [run_at (d := d14) rfl rfl]
  by_cases w0 : w = 0
  · subst w0
    obtain ⟨v, c2, x2, y2, g1, g2, g3⟩ := r8i m c1 x1 y1 h2 (B := 30) (by decide) (by decide +kernel)
    refine ⟨v, c2, x2, y2, by omega, g2, ?_⟩
    simp [d14, h3, g3]
  by_cases w1 : w = 1
  · subst w1
    obtain ⟨v, c2, x2, y2, g1, g2, g3⟩ := r8i m c1 x1 y1 h2 (B := 3) (by decide) (by decide +kernel)
    obtain ⟨u, c4, x4, y4, k1, k2, k3⟩ := r8i m c2 x2 y2 g2 (B := 50) (by decide) (by decide +kernel)
    have hv : v ≤ 2 := by omega
    have hu : u ≤ 49 := by omega
    have huv : v * u ≤ 2 * 49 := Nat.mul_le_mul hv hu
    have hbm : bigMul (v : Int) (u : Int) = true := big31 (by omega) (by omega)
    refine ⟨10 ^ 30 - v * u, c4, x4, y4, by omega, k2, ?_⟩
    have e : ((10 ^ 30 - v * u : Nat) : Int) = 10 ^ 30 - (v : Int) * u := by
      generalize hq : v * u = q at huv
      have e2 : (v : Int) * u = ((q : Nat) : Int) := by rw [← hq, Int.natCast_mul]
      rw [e2]
      omega
    rw [e]
    simp [d14, h3, g3, k3, when', p30, hbm]
  by_cases w2 : w = 2
  · subst w2
    obtain ⟨v, c2, x2, y2, g1, g2, g3⟩ := r8i m c1 x1 y1 h2 (B := 10 ^ 30 + 1) (by decide) (by decide +kernel)
    refine ⟨v, c2, x2, y2, by omega, g2, ?_⟩
    simp [d14, h3, when', p30]
    simp at g3
    simp [g3]
  by_cases w3 : w = 3
  · subst w3
    obtain ⟨v, c2, x2, y2, g1, g2, g3⟩ := r8i m c1 x1 y1 h2 (B := 10 ^ 9) (by decide) (by decide +kernel)
    obtain ⟨u, c4, x4, y4, k1, k2, k3⟩ := r8i m c2 x2 y2 g2 (B := 10 ^ 9) (by decide) (by decide +kernel)
    have hv : v ≤ 10 ^ 9 := by omega
    have hu : u ≤ 10 ^ 9 := by omega
    have huv : v * u ≤ 10 ^ 9 * 10 ^ 9 := Nat.mul_le_mul hv hu
    have hbm : bigMul (v : Int) (u : Int) = true := big31 (by omega) (by omega)
    refine ⟨v * u, c4, x4, y4, Nat.le_trans huv (by decide), k2, ?_⟩
    simp at g3 k3
    simp [d14, h3, g3, k3, when', pow9, hbm]
  obtain ⟨k, c2, x2, y2, o', ⟨gk, gk2⟩, g2, wl'⟩ := pwr_run m c1 x1 y1 h2 hb w
  have hpos : 1 ≤ b ^ k := Nat.pow_pos (by omega)
  have w0' : ¬ (w : Int) = 0 := by omega
  have w1' : ¬ (w : Int) = 1 := by omega
  have w2' : ¬ (w : Int) = 2 := by omega
  have w3' : ¬ (w : Int) = 3 := by omega
  by_cases w4 : w = 4
  · subst w4
    obtain ⟨v, c4, x4, y4, k1, k2, k3⟩ := r8i m c2 x2 y2 g2 (B := 3) (by decide) (by decide +kernel)
    refine ⟨b ^ k - 1 + v, c4, x4, y4, ?_, k2, ?_⟩
    · have := tt99
      omega
    · have e : ((b ^ k - 1 + v : Nat) : Int) = (b : Int) ^ k - 1 + v := by
        rw [Int.natCast_add, Int.ofNat_sub hpos]
        simp
      rw [e]
      simp at wl'
      simp [d14, h3, wl', k3]
  · obtain ⟨v, c4, x4, y4, k1, k2, k3⟩ := r8i m c2 x2 y2 g2 (B := 12) (by decide) (by decide +kernel)
    have w4' : ¬ (w : Int) = 4 := by omega
    have hbm : bigMul ((b ^ k : Nat) : Int) ((1 + v : Nat) : Int) = true := big_ok (pow_big (by omega) (by omega)) (Nat.lt_trans (show 1 + v < 2 ^ 31 by omega) b31)
    simp at hbm
    refine ⟨min (10 ^ 30) (b ^ k * (1 + v)), c4, x4, y4, Nat.min_le_left _ _, k2, ?_⟩
    rw [min_cast]
    have e2 : ((b ^ k * (1 + v) : Nat) : Int) = (b : Int) ^ k * (1 + v) := by simp
    rw [e2]
    simp [d14, h3, wl', k3, w0, w0', w1', w2', w3', w4', when', p30, hbm]
end K01
end
section
set_option linter.all false
set_option maxRecDepth 100000
set_option exponentiation.threshold 3000
namespace K01
open PySem Fr
theorem cmp15 {m b : Nat} {gl : Nat → D} (hb : 1 ≤ b) (hb2 : b ≤ 3) {w r mm en : Option D} : ∀ (l : List D) (c : List Nat) (x y : Nat) (o : Option D), y < 2 ^ 31 →
    ∃ (vs : List Nat) (c' : List Nat) (x' y' : Nat) (o' : Option D), (∀ v ∈ vs, v < b) ∧ vs.length = l.length ∧ y' < 2 ^ 31 ∧
      goComp (ev (runP P (m + 1)) gl C15_0c) (ev (runP P (m + 1)) gl C15_0e) [6] (.nm 6) l [some (bagD c x y), some (.int b), w, r, mm, en, o] = some (nn vs, [some (bagD c' x' y'), some (.int b), w, r, mm, en, o'])
  | [], c, x, y, o, hy => ⟨[], c, x, y, o, by simp, rfl, hy, rfl⟩
  | a :: l, c, x, y, o, hy => by
    obtain ⟨v, c1, x1, y1, h1, h2, h3⟩ := r8i m c x y hy (B := b) (by omega) (i1999 (Nat.le_trans hb2 (by decide +kernel)))
    obtain ⟨vs, c', x', y', o', g1, g2, g3, g4⟩ := cmp15 (m := m) (gl := gl) hb hb2 (w := w) (r := r) (mm := mm) (en := en) l c1 x1 y1 (some a) h2
    refine ⟨v :: vs, c', x', y', o', ?_, by simp [g2], g3, ?_⟩
    · intro u hu
      rcases List.mem_cons.mp hu with e | e
      · subst e; omega
      · exact g1 u e
    · rw [goComp_t (E1 := [some (bagD c x y), some (.int b), w, r, mm, en, some a]) (E2 := [some (bagD c x y), some (.int b), w, r, mm, en, some a]) (o := .v (.bl true)) (E3 := [some (bagD c1 x1 y1), some (.int b), w, r, mm, en, some a]) (E4 := [some (bagD c1 x1 y1), some (.int b), w, r, mm, en, some a]) (o2 := .v (.int v)) (d := .int v) (by simp [Fr.wipe]) (by simp [C15_0c]) (by simp) (by simp [C15_0e, h3]) (by simp), g4]
      rfl
theorem zeros' (k : Nat) : List.replicate k (D.int 0) = nn (List.replicate k 0) := by simp [nn]
theorem it15 {F : Calls} {Gl : Nat → D} (bag b w : Option D) (many ends : Nat) (hm : many ≤ 1000000) : evIt F Gl C15_0i [bag, b, w, none, some (.int many), some (.int ends), none] = some ((List.range (many - min many ends)).map fun j => D.int (0 + (j : Nat)), [bag, b, w, none, some (.int many), some (.int ends), none]) := by
  refine it_rng1 (os := [.v (.int ((many - min many ends : Nat) : Int))]) (ds := [.int ((many - min many ends : Nat) : Int)]) ?_ rfl (frng1 (by omega))
  have hmin : (if ends < many then (ends : Int) else many) = ((min many ends : Nat) : Int) := by split <;> omega
  have e : ((many - min many ends : Nat) : Int) = (many : Int) - ((min many ends : Nat) : Int) := Int.ofNat_sub (Nat.min_le_left _ _)
  rw [e]
  simp [hmin]
theorem end15 {F : Calls} {Gl : Nat → D} (bag b w : Option D) (vs : List Nat) (many ends k : Nat) (hk : k ≤ 1000) (hl : vs.length + k ≤ sizeLine) (hmin : b2 .min (.int many) (.int ends) = some (.int (k : Nat))) :
    Fr.exec F Gl (.ret (.blt .tuple (.cons (.op .add (.var 3) (.op .mul (.lst (.cons (.con (.int 0)) .nil)) (.blt .min (.cons (.var 4) (.cons (.var 5) .nil))))) .nil))) [bag, b, w, some (.lst true (nn vs)), some (.int many), some (.int ends), none] = some (.ret (.tup (nn (vs ++ List.replicate k 0))), [bag, b, w, some (.lst true (nn vs)), some (.int many), some (.int ends), none]) := by
  have hmul := mul_l1 false (.int 0) (k := k) (by omega)
  rw [zeros'] at hmul
  simp [-b2, hmin, when', hmul, hl]
def tail15 : Sts := (.cons (.asg 3 C15_0) (.cons (.ret (.blt .tuple (.cons (.op .add (.var 3) (.op .mul (.lst (.cons (.con (.int 0)) .nil)) (.blt .min (.cons (.var 4) (.cons (.var 5) .nil))))) .nil))) .nil))
theorem bd15 : d15.bd = (.cons (.asg 2 (.call 8 (some 0) (.cons (.var 0) (.cons (.con (.int 12)) .nil)))) (.cons (.ife (.op .eq (.var 2) (.con (.int 0))) (.cons (.par 4 5 (.op .add (.con (.int 199)) (.call 8 (some 0) (.cons (.var 0) (.cons (.con (.int 2)) .nil)))) (.call 8 (some 0) (.cons (.var 0) (.cons (.con (.int 3)) .nil)))) .nil) (.cons (.par 4 5 (.call 8 (some 0) (.cons (.var 0) (.cons (.ife (.op .lt (.var 2) (.con (.int 3))) (.con (.int 70)) (.con (.int 9))) .nil))) (.call 8 (some 0) (.cons (.var 0) (.cons (.con (.int 4)) .nil)))) .nil)) tail15)) := rfl
/-- the end of the row, its length and its noughts drawn -/
theorem row_end (m : Nat) (c : List Nat) (x y : Nat) (hy : y < 2 ^ 31) {b : Nat} (hb : b = 2 ∨ b = 3) (w many ends : Nat) (hm : many ≤ 200) (he : ends ≤ 3) : ∃ (l : List Nat) (c' : List Nat) (x' y' : Nat) (E : Fr.Env), (∀ v ∈ l, v < b) ∧ l.length ≤ 200 ∧ y' < 2 ^ 31 ∧
    Fr.execs (runP P (m + 1)) P.gl tail15 [some (bagD c x y), some (.int b), some (.int w), none, some (.int many), some (.int ends), none] = some (.ret (.tup (nn l)), some (bagD c' x' y') :: E) := by
  have hn : many - min many ends ≤ 1000000 := by omega
  obtain ⟨vs, c', x', y', o', g1, g2, g3, g4⟩ := cmp15 (m := m) (gl := P.gl) (b := b) (by omega) (by omega) (w := some (.int w)) (r := none) (mm := some (.int many)) (en := some (.int ends)) ((List.range (many - min many ends)).map fun j => D.int (0 + (j : Nat))) c x y none hy
  have hi := it15 (F := runP P (m + 1)) (Gl := P.gl) (some (bagD c x y)) (some (.int b)) (some (.int w)) many ends (by omega)
  have hc := comp_run (own := [6]) (tg := .nm 6) hi g4 (by rw [nn_len, g2, List.length_map, List.length_range]; exact Nat.le_trans hn (by decide))
  have hc' : ev (runP P (m + 1)) P.gl C15_0 [some (bagD c x y), some (.int b), some (.int w), none, some (.int many), some (.int ends), none] = _ := hc
  have hlen : vs.length + min many ends ≤ 200 := by rw [g2]; simp; omega
  refine ⟨vs ++ List.replicate (min many ends) 0, c', x', y', [some (.int b), some (.int w), some (.lst true (nn vs)), some (.int many), some (.int ends), none], ?_, by simpa using hlen, g3, ?_⟩
  · intro v hv
    rcases List.mem_append.mp hv with h | h
    · exact g1 v h
    · have := List.eq_of_mem_replicate h
      omega
  · have k7 : vs.length + min many ends ≤ sizeLine := Nat.le_trans hlen (by decide)
    have hmin : b2 .min (.int many) (.int ends) = some (.int ((min many ends : Nat) : Int)) := by
      show some (D.int (if (ends : Int) < many then (ends : Int) else many)) = _
      congr 2
      split <;> omega
    have he := end15 (F := runP P (m + 1)) (Gl := P.gl) (some (bagD c' x' y')) (some (.int b)) (some (.int w)) vs many ends (min many ends) (by omega) k7 hmin
    simp only [tail15, exs_cons, ex_asg, hc', Option.bind_some, Fr.take, Option.map_some, restore, List.map_cons, List.map_nil]
    refine (congrArg (fun q => Option.bind q _) he).trans rfl
theorem r15 (m : Nat) (c : List Nat) (x y : Nat) (hy : y < 2 ^ 31) {b : Nat} (hb : b = 2 ∨ b = 3) : ∃ (l : List Nat) (c' : List Nat) (x' y' : Nat), (∀ v ∈ l, v < b) ∧ l.length ≤ 200 ∧ y' < 2 ^ 31 ∧ runP P (m + 2) 15 [bagD c x y, .int b] = some (.tup (nn l), some (bagD c' x' y')) := by
  obtain ⟨w, c1, x1, y1, h1, h2, h3⟩ := r8i m c x y hy (B := 12) (by decide) (by decide +kernel)
  rw [run_at (d := d15) rfl rfl]
  by_cases w0 : w = 0
  · subst w0
    obtain ⟨u, c2, x2, y2, g1, g2, g3⟩ := r8i m c1 x1 y1 h2 (B := 2) (by decide) (by decide +kernel)
    obtain ⟨v, c3, x3, y3, k1, k2, k3⟩ := r8i m c2 x2 y2 g2 (B := 3) (by decide) (by decide +kernel)
    obtain ⟨l, c', x', y', E, e1, e2, e3, e4⟩ := row_end m c3 x3 y3 k2 hb 0 (199 + u) v (by omega) (by omega)
    refine ⟨l, c', x', y', e1, e2, e3, ?_⟩
    have e5 : ((199 + u : Nat) : Int) = 199 + (u : Int) := by simp
    rw [e5] at e4
    rw [bd15]
    simp only [Int.natCast_zero] at e4 h3
    simp [Fr.start, d15, h3, g3, k3, e4]
  · have w0' : ¬ (w : Int) = 0 := by omega
    obtain ⟨u, c2, x2, y2, g1, g2, g3⟩ : ∃ (u : Nat) (c2 : List Nat) (x2 y2 : Nat), u < 70 ∧ y2 < 2 ^ 31 ∧ runP P (m + 1) 8 [bagD c1 x1 y1, .int (if w < 3 then 70 else 9)] = some (.int (u : Nat), some (bagD c2 x2 y2)) := by
      by_cases w3 : w < 3
      · obtain ⟨u, c2, x2, y2, g1, g2, g3⟩ := r8i m c1 x1 y1 h2 (B := 70) (by decide) (by decide +kernel)
        exact ⟨u, c2, x2, y2, by omega, g2, by simpa [w3] using g3⟩
      · obtain ⟨u, c2, x2, y2, g1, g2, g3⟩ := r8i m c1 x1 y1 h2 (B := 9) (by decide) (by decide +kernel)
        exact ⟨u, c2, x2, y2, by omega, g2, by simpa [w3] using g3⟩
    obtain ⟨v, c3, x3, y3, k1, k2, k3⟩ := r8i m c2 x2 y2 g2 (B := 4) (by decide) (by decide +kernel)
    obtain ⟨l, c', x', y', E, e1, e2, e3, e4⟩ := row_end m c3 x3 y3 k2 hb w u v (by omega) (by omega)
    refine ⟨l, c', x', y', e1, e2, e3, ?_⟩
    rw [bd15]
    by_cases w3 : w < 3
    · have w3' : (w : Int) < 3 := by omega
      simp only [w3, if_true] at g3
      simp [Fr.start, d15, h3, w0, w0', w3', g3, k3, e4]
    · have w3' : ¬ (w : Int) < 3 := by omega
      simp only [w3, if_false] at g3
      simp [Fr.start, d15, h3, w0, w0', w3', g3, k3, e4]
end K01
end
section
set_option linter.all false
set_option maxRecDepth 100000
set_option exponentiation.threshold 3000
namespace K01
open PySem Fr
theorem cut63 (l : List D) (h : l.length ≤ 63) : cut l none (some 63) = l := by
  unfold cut
  rw [show HT.sIx l.length 0 none = 0 from HT.sIx_none _ _, show HT.sIx l.length l.length (some 63) = min 63 l.length from HT.sIx_nat l.length l.length 63]
  simp
  exact List.take_of_length_le (by omega)
theorem abs_nat (i : Int) : b1 .abs (.int i) = some (.int ((i.natAbs : Nat) : Int)) := by
  show some (D.int (if i < 0 then -i else i)) = _
  congr 2
  split <;> omega
theorem cmp7 {F : Calls} {gl : Nat → D} {s a b : Option D} : ∀ (ns : List Int) (o : Option D), ∃ o', goComp (ev F gl C7_1c) (ev F gl C7_1e) [3] (.nm 3) (ns.map .int) [s, a, b, o] = some (nn (ns.map Int.natAbs), [s, a, b, o'])
  | [], o => ⟨o, rfl⟩
  | i :: ns, o => by
    obtain ⟨o', ih⟩ := cmp7 (F := F) (gl := gl) (s := s) (a := a) (b := b) ns (some (.int i))
    refine ⟨o', ?_⟩
    rw [List.map_cons, goComp_t (E1 := [s, a, b, some (.int i)]) (E2 := [s, a, b, some (.int i)]) (o := .v (.bl true)) (E3 := [s, a, b, some (.int i)]) (E4 := [s, a, b, some (.int i)]) (o2 := .v (.int (i.natAbs : Nat))) (d := .int (i.natAbs : Nat)) (by simp [Fr.wipe]) (by simp [C7_1c]) (by simp) (by simp [-b1, C7_1e, abs_nat]) (by simp), ih]
    rfl
theorem fr7 {F : Calls} {gl : Nat → D} {s a : Option D} : ∀ (l : List Nat) (mx : Nat) (o : Option D), mx < 2 ^ 31 → ∃ (m2 : Nat) (o' : Option D), m2 < 2 ^ 31 ∧ goFor (Fr.execs F gl L7_0b) (.nm 3) (nn l) [s, a, some (.int mx), o] = some (.nx, [s, a, some (.int m2), o'])
  | [], mx, o, h => ⟨mx, o, h, rfl⟩
  | i :: l, mx, o, h => by
    generalize hz : (mx * 48271 + i % 2147483629 + 7) % 2147483647 = z
    have hz2 : z < 2 ^ 31 := by rw [← hz]; exact Nat.lt_trans (Nat.mod_lt _ (by decide)) (by decide)
    obtain ⟨m2, o', g1, ih⟩ := fr7 (F := F) (gl := gl) (s := s) (a := a) l z (some (.int i)) hz2
    refine ⟨m2, o', g1, ?_⟩
    have k1 : bigMul (mx : Int) 48271 = true := big31 (v := 48271) h (by decide)
    have ez : ((mx : Int) * 48271 + (i : Int) % 2147483629 + 7) % 2147483647 = (z : Int) := by omega
    rw [nn_cons, goFor_nx (E1 := [s, a, some (.int mx), some (.int i)]) (E2 := [s, a, some (.int z), some (.int i)]) (by simp) (by simp [L7_0b, when', k1, ez]), ih]
theorem r7 (m : Nat) (ns : List Int) (h : ns.length ≤ 63) : ∃ (c : List Nat) (y : Nat), y < 2 ^ 31 ∧ runP P (m + 1) 7 [scr ns] = some (bagD c 0 y, none) := by
  obtain ⟨o1, g⟩ := cmp7 (F := runP P m) (gl := P.gl) (s := some (scr ns)) (a := none) (b := none) ns none
  have hi : evIt (runP P m) P.gl C7_1i [some (scr ns), none, none, none] = some (ns.map .int, [some (scr ns), none, none, none]) := by
    have := cut63 (ns.map .int) (by simpa using h)
    simp [C7_1i, scr, fzs_ints, this, nofs_ints]
  have hc : ev (runP P m) P.gl C7_1 [some (scr ns), none, none, none] = _ := comp_run hi g (by rw [nn_len, List.length_map]; exact Nat.le_trans h (by decide))
  obtain ⟨m2, o2, g1, g2⟩ := fr7 (F := runP P m) (gl := P.gl) (s := some (scr ns)) (a := some (.lst false (nn (ns.map Int.natAbs)))) (ns.map Int.natAbs) (2468 + ns.length) none (by omega)
  have hl : Fr.exec (runP P m) P.gl L7_0 [some (scr ns), some (.lst true (nn (ns.map Int.natAbs))), some (.int ((2468 + ns.length : Nat) : Int)), none] = _ := fr_run (l := nn (ns.map Int.natAbs)) (by simp [L7_0i]) g2
  refine ⟨(ns.map Int.natAbs).reverse, m2, g1, ?_⟩
  rw [run_at (d := d7) rfl rfl]
  have e5 : ((2468 + ns.length : Nat) : Int) = 2468 + (ns.length : Int) := by simp
  rw [e5] at hl
  simp only [restore, List.map_cons, List.map_nil] at hc
  simp [d7, hc, hl, bagD]
end K01
end
section
set_option linter.all false
set_option maxRecDepth 100000
namespace K01
open PySem Fr
/-! ### errors -/
def bad (b : Nat) : D → Bool
  | .int i => decide (i < 0) || decide ((b : Int) ≤ i)
  | _ => true
def errAt (b : Nat) : Nat → List D → D
  | _, [] => .non
  | k, x :: r => if bad b x = true then .tup [.str "figure", .int (k : Nat)] else errAt b (k + 1) r
def errOf (b : Nat) : D → D
  | .tup xs => if 200 < xs.length then .str "form" else errAt b 0 xs
  | _ => .str "form"
theorem fr16 {F : Calls} {gl : Nat → D} {b : Nat} {v : Option D} : ∀ (xs : List D) (k : Nat) (o2 o3 : Option D), ∃ r o2' o3', goFor (Fr.execs F gl L16_0b) (.tp [2, 3]) (enumD k xs) [some (.int b), v, o2, o3] = some (r, [some (.int b), v, o2', o3']) ∧ ((r = .nx ∧ errAt b k xs = .non) ∨ r = .ret (errAt b k xs))
  | [], k, o2, o3 => ⟨.nx, o2, o3, rfl, .inl ⟨rfl, rfl⟩⟩
  | x :: xs, k, o2, o3 => by
    by_cases hb : bad b x = true
    · refine ⟨.ret (.tup [.str "figure", .int (k : Nat)]), some (.int k), some x, ?_, .inr (by simp [errAt, hb])⟩
      rw [enumD, goFor_ret (E1 := [some (.int b), v, some (.int k), some x]) (E2 := [some (.int b), v, some (.int k), some x]) (d := .tup [.str "figure", .int (k : Nat)]) (by simp [Fr.asg, asgs]) ?_]
      cases x <;> simp [L16_0b, bad] at hb ⊢
      rename_i i
      by_cases h0 : i < 0
      · simp [h0]
      · have h1 : (b : Int) ≤ i := hb.resolve_left h0
        simp [h0, h1]
    · obtain ⟨r, o2', o3', ih, hr⟩ := fr16 (F := F) (gl := gl) (b := b) (v := v) xs (k + 1) (some (.int k)) (some x)
      refine ⟨r, o2', o3', ?_, by simpa [errAt, hb] using hr⟩
      rw [enumD, goFor_nx (E1 := [some (.int b), v, some (.int k), some x]) (E2 := [some (.int b), v, some (.int k), some x]) (by simp [Fr.asg, asgs]) ?_, ih]
      cases x <;> simp [L16_0b, bad] at hb ⊢
      rename_i i
      have h0 : ¬ i < 0 := by omega
      have h1 : ¬ (b : Int) ≤ i := by omega
      simp [h0, h1]
theorem r16 (m : Nat) (b : Nat) (d : D) : runP P (m + 1) 16 [.int b, d] = some (errOf b (fz d), none) := by
  rw [run_at (d := d16) rfl rfl]
  cases d with
  | tup xs =>
    by_cases hl : 200 < xs.length
    · have hl' : (200 : Int) < xs.length := by omega
      simp [d16, errOf, fzs_map, hl, hl']
    · obtain ⟨r, o2, o3, g, hr⟩ := fr16 (F := runP P m) (gl := P.gl) (b := b) (v := some (.tup (fzs xs))) (fzs xs) 0 none none
      have w : Fr.exec (runP P m) P.gl L16_0 [some (.int b), some (.tup xs), none, none] = _ := fr_run (by simp [L16_0i]) g
      have hl' : ¬ (200 : Int) < xs.length := by omega
      have hf : (fzs xs).length = xs.length := by rw [fzs_map]; simp
      rcases hr with ⟨rfl, hr⟩ | rfl
      · simp [d16, errOf, hf, hl, hl', w, hr]
      · simp [d16, errOf, hf, hl, hl', w]
  | _ => simp [d16, errOf]
/-- the places of the bad ones -/
def bads (b : Nat) : Nat → List D → List Nat
  | _, [] => []
  | k, x :: r => if bad b x = true then k :: bads b (k + 1) r else bads b (k + 1) r
theorem bads_len (b : Nat) : ∀ (k : Nat) (xs : List D), (bads b k xs).length ≤ xs.length
  | _, [] => Nat.le_refl _
  | k, x :: r => by
    have := bads_len b (k + 1) r
    unfold bads
    split <;> simp <;> omega
theorem bads_err (b : Nat) : ∀ (k : Nat) (xs : List D), errAt b k xs = match bads b k xs with
    | [] => .non
    | j :: _ => .tup [.str "figure", .int (j : Nat)]
  | _, [] => rfl
  | k, x :: r => by
    unfold bads errAt
    split
    · rfl
    · exact bads_err b (k + 1) r
theorem bad_within {b : Nat} (x : D) : within 0 ((b : Int) - 1) x = !bad b x := by
  cases x <;> simp [within, bad]
  rename_i i
  by_cases h : i < 0
  · have : ¬ 0 ≤ i := by omega
    simp [h, this]
  · have h' : 0 ≤ i := by omega
    by_cases h1 : (b : Int) ≤ i
    · have : ¬ i ≤ (b : Int) - 1 := by omega
      simp [h, h1, this]
    · have : i ≤ (b : Int) - 1 := by omega
      simp [h', h1, this]
theorem cmp6 {m b : Nat} {gl : Nat → D} {v a : Option D} : ∀ (xs : List D) (k : Nat) (o3 o4 : Option D), ∃ o3' o4', goComp (ev (runP P (m + 2)) gl C6_0c) (ev (runP P (m + 2)) gl C6_0e) [3, 4] (.tp [3, 4]) (enumD k xs) [some (.int b), v, a, o3, o4] = some (nn (bads b k xs), [some (.int b), v, a, o3', o4'])
  | [], k, o3, o4 => ⟨o3, o4, rfl⟩
  | x :: xs, k, o3, o4 => by
    obtain ⟨o3', o4', ih⟩ := cmp6 (m := m) (b := b) (gl := gl) (v := v) (a := a) xs (k + 1) (some (.int k)) (some x)
    refine ⟨o3', o4', ?_⟩
    have hw := r1 m (fz x) 0 ((b : Int) - 1)
    rw [bad_within, show bad b (fz x) = bad b x by cases x <;> simp [bad]] at hw
    unfold bads
    by_cases hb : bad b x = true
    · rw [enumD, goComp_t (E1 := [some (.int b), v, a, some (.int k), some x]) (E2 := [some (.int b), v, a, some (.int k), some x]) (o := .v (.bl true)) (E3 := [some (.int b), v, a, some (.int k), some x]) (E4 := [some (.int b), v, a, some (.int k), some x]) (o2 := .sl 3) (d := .int k) (by simp [Fr.wipe, Fr.asg, asgs]) (by simp [C6_0c, hw, hb]) (by simp) (by simp [C6_0e]) (by simp), ih]
      simp [hb]
    · rw [enumD, goComp_f (E1 := [some (.int b), v, a, some (.int k), some x]) (E2 := [some (.int b), v, a, some (.int k), some x]) (o := .v (.bl false)) (by simp [Fr.wipe, Fr.asg, asgs]) (by simp [C6_0c, hw, hb]) (by simp), ih]
      simp [hb]
theorem r6 (m : Nat) (b : Nat) (d : D) : runP P (m + 3) 6 [.int b, d] = some (errOf b (fz d), none) := by
  rw [run_at (d := d6) rfl rfl]
  cases d with
  | tup xs =>
    by_cases hl : 200 < xs.length
    · have hl' : (200 : Int) < xs.length := by omega
      simp [d6, errOf, fzs_map, hl, hl']
    · have hl' : ¬ (200 : Int) < xs.length := by omega
      have hf : (fzs xs).length = xs.length := by rw [fzs_map]; simp
      obtain ⟨o3, o4, g⟩ := cmp6 (m := m) (b := b) (gl := P.gl) (v := some (.tup (fzs xs))) (a := none) (fzs xs) 0 none none
      have hbl : (bads b 0 (fzs xs)).length ≤ 200 := Nat.le_trans (bads_len b 0 _) (by omega)
      have hc : ev (runP P (m + 2)) P.gl C6_0 [some (.int b), some (.tup xs), none, none, none] = _ := comp_run (l := enumD 0 (fzs xs)) (E1 := [some (.int b), some (.tup (fzs xs)), none, none, none]) (by simp [C6_0i]) g (by rw [nn_len]; exact Nat.le_trans hbl (by decide))
      simp only [restore, List.map_cons, List.map_nil] at hc
      have he := bads_err b 0 (fzs xs)
      have hn := ne_nil false false (bads b 0 (fzs xs))
      cases hb : bads b 0 (fzs xs) with
      | nil =>
        rw [hb] at he hn hc
        simp at hn he
        simp [d6, errOf, hf, hl, hl', hc, hn, he]
      | cons j r =>
        rw [hb] at he hn hc
        simp at hn he
        simp [d6, errOf, hf, hl, hl', hc, hn, he, ixN, L2.ixN]
  | _ => simp [d6, errOf]
end K01
end
section
set_option linter.all false
set_option maxRecDepth 100000
namespace K01
open PySem Fr
def okRb (d : D) : Bool := PyData.showable (py d) && decide ((PyData.shown (py d)).length ≤ sizeLine) && decide (PyData.depth (py d) ≤ 40)
theorem okR_of {d : D} (h : okRb d = true) : okR d := by
  unfold okRb at h
  simp only [Bool.and_eq_true, decide_eq_true_eq] at h
  exact ⟨h.1.1, h.1.2, h.2⟩
theorem due_form : okRb (.lst true [.str "form", .str "form"]) = true := by decide +kernel
theorem due_non : okRb (.lst true [.non, .non]) = true := by decide +kernel
theorem due_fig : (List.range 201).all (fun k => okRb (.lst true [.tup [.str "figure", .int (k : Nat)], .tup [.str "figure", .int (k : Nat)]])) = true := by decide +kernel
theorem errAt_cases (b : Nat) : ∀ (k : Nat) (xs : List D), errAt b k xs = .non ∨ ∃ j, j < k + xs.length ∧ errAt b k xs = .tup [.str "figure", .int (j : Nat)]
  | _, [] => .inl rfl
  | k, x :: r => by
    unfold errAt
    split
    · exact .inr ⟨k, by simp, rfl⟩
    · rcases errAt_cases b (k + 1) r with h | ⟨j, h1, h2⟩
      · exact .inl h
      · exact .inr ⟨j, by simp; omega, h2⟩
theorem err_cases (b : Nat) (d : D) : errOf b d = .non ∨ errOf b d = .str "form" ∨ ∃ j, j < 201 ∧ errOf b d = .tup [.str "figure", .int (j : Nat)] := by
  cases d with
  | tup xs =>
    by_cases hl : 200 < xs.length
    · exact .inr (.inl (by simp [errOf, hl]))
    · have e : errOf b (.tup xs) = errAt b 0 xs := by simp [errOf, hl]
      rw [e]
      rcases errAt_cases b 0 xs with h | ⟨j, h1, h2⟩
      · exact .inl h
      · exact .inr (.inr ⟨j, by omega, h2⟩)
  | _ => exact .inr (.inl rfl)
theorem okR_due (b : Nat) (d : D) : okR (.lst true [errOf b d, errOf b d]) := by
  rcases err_cases b d with h | h | ⟨j, h1, h2⟩
  · rw [h]; exact okR_of due_non
  · rw [h]; exact okR_of due_form
  · rw [h2]; exact okR_of (List.all_eq_true.mp due_fig j (List.mem_range.mpr h1))
theorem okR_fz {d : D} (h : okR d) : okR (fz d) := by unfold okR; rw [py_fz]; exact h
theorem okR_flag {o o' : Bool} {l : List D} (h : okR (.lst o l)) : okR (.lst o' l) := h
/-- two like things are alike -/
theorem same (m : Nat) {a b : D} (ha : okR a) (hb : okR b) (e : py a = py b) (t : isTup a = isTup b) : runP P (m + 1) 10 [a, b] = some (.bl true, none) := by
  rw [r10 m ha hb, e, t]
  simp
theorem fz_err (b : Nat) (d : D) : fz (errOf b d) = errOf b d := by
  rcases err_cases b d with h | h | ⟨j, _, h⟩ <;> rw [h] <;> rfl
theorem nof_err (b : Nat) (d : D) : nof (errOf b d) = true := by
  rcases err_cases b d with h | h | ⟨j, _, h⟩ <;> rw [h] <;> rfl
theorem fr20 {m b : Nat} {gl : Nat → D} {vs : Option D} : ∀ (xs : List D) (o2 o3 o4 o5 : Option D), (∀ v ∈ xs, okR v ∧ fz v = v) → ∃ E, goFor (Fr.execs (runP P (m + 3)) gl L20_0b) (.nm 2) xs [some (.int b), vs, o2, o3, o4, o5] = some (.nx, E)
  | [], o2, o3, o4, o5, h => ⟨_, rfl⟩
  | x :: xs, o2, o3, o4, o5, h => by
    obtain ⟨h1, h2⟩ := h x (by simp)
    obtain ⟨E, ih⟩ := fr20 (m := m) (b := b) (gl := gl) (vs := vs) xs (some x) (some (.lst true [errOf b x, errOf b x])) (some (.str (PyData.shown (py x)))) (some (errOf b x)) fun v hv => h v (by simp [hv])
    refine ⟨E, ?_⟩
    have e16 := r16 (m + 2) b x
    have e6 := r6 m b x
    rw [h2] at e16 e6
    have hs := same (m + 2) (a := .lst false [errOf b x, errOf b x]) (b := .lst false [errOf b x, errOf b x]) (okR_due b x) (okR_due b x) rfl rfl
    obtain ⟨a1, a2, a3⟩ := h1
    rw [goFor_nx (E1 := [some (.int b), vs, some x, o3, o4, o5]) (E2 := [some (.int b), vs, some x, some (.lst true [errOf b x, errOf b x]), some (.str (PyData.shown (py x))), some (errOf b x)]) (by simp) ?_, ih]
    have hpl : place (Opd.v .non) [] [1, 0] [Opd.sl 2, Opd.sl 0] = [Opd.sl 0, Opd.sl 2] := rfl
    simp [-place, L20_0b, h2, e16, e6, hs, a1, a2, a3, when', fz_err, nof_err, hpl]
theorem r20 (m : Nat) (b : Nat) (o : Bool) (xs : List D) (h : ∀ v ∈ xs, okR v) : runP P (m + 4) 20 [.int b, .lst o xs] = some (.bl true, none) := by
  rw [run_at (d := d20) rfl rfl]
  obtain ⟨E, g⟩ := fr20 (m := m) (b := b) (gl := P.gl) (vs := some (.lst false (fzs xs))) (fzs xs) none none none none fun v hv => by
    rw [fzs_map] at hv
    obtain ⟨u, hu, rfl⟩ := List.mem_map.mp hv
    exact ⟨okR_fz (h u hu), fz_fz u⟩
  have w : Fr.exec (runP P (m + 3)) P.gl L20_0 [some (.int b), some (.lst o xs), none, none, none, none] = _ := fr_run (l := fzs xs) (by simp [L20_0i]) g
  simp [d20, w]
end K01
end
section
set_option linter.all false
set_option maxRecDepth 100000
namespace K01
open PySem Fr
/-! ### figures, plainly -/
theorem worth_digs {b : Nat} (hb : 2 ≤ b) : ∀ (f n : Nat), n < 2 ^ f → worth b (digs b f n) = n
  | 0, n, h => by
    have : n = 0 := by simpa using h
    subst this
    rfl
  | f + 1, n, h => by
    unfold digs
    split
    · rename_i e; rw [e]; rfl
    · simp only [worth]
      rw [worth_digs hb f (n / b) (half_lt hb h)]
      have := Nat.div_add_mod n b
      omega
theorem digs_lt {b : Nat} (hb : 2 ≤ b) : ∀ (f n : Nat), ∀ x ∈ digs b f n, x < b
  | 0, n, x, h => by simp [digs] at h
  | f + 1, n, x, h => by
    unfold digs at h
    split at h
    · simp at h
    · rcases List.mem_cons.mp h with e | e
      · rw [e]; exact Nat.mod_lt _ (by omega)
      · exact digs_lt hb f (n / b) x e
theorem own_pwr {b : Nat} (hb : 2 ≤ b) : ∀ (f n p : Nat), 0 < n → n < 2 ^ f → own b (digs b f n) p = p * pwr b f n
  | 0, n, p, h0, h => by
    have : n = 0 := by simpa using h
    omega
  | f + 1, n, p, h0, h => by
    have hn : ¬ n = 0 := by omega
    unfold digs pwr
    simp only [hn, if_false, own]
    by_cases hz : n % b = 0
    · have hq : 0 < n / b := by
        rcases Nat.eq_zero_or_pos (n / b) with z | z
        · have := Nat.div_add_mod n b
          rw [z, hz] at this
          omega
        · exact z
      simp only [hz, ne_eq, not_true_eq_false, if_false, if_true]
      rw [own_pwr hb f (n / b) (p * b) hq (half_lt hb h), Nat.mul_assoc]
    · simp [hz]
theorem own_pw {b n : Nat} (hb : 2 ≤ b) (h : n < 2 ^ 399) : own b (digs b 400 n) 1 = pw b n := by
  unfold pw
  by_cases h0 : n = 0
  · subst h0
    rfl
  · rw [if_neg h0, own_pwr hb 400 n 1 (by omega) (Nat.lt_trans h (by decide +kernel)), Nat.one_mul]
theorem digs_same {b n : Nat} (hb : 2 ≤ b) (h : n < 2 ^ 399) : digs b 400 n = digs b 399 n := digs_more b hb 399 n h
/-- the figures of a row's worth -/
theorem digs_worth {b : Nat} (hb : 2 ≤ b) : ∀ (l : List Nat) (f : Nat), (∀ x ∈ l, x < b) → l.length ≤ f → ∃ k, l = digs b f (worth b l) ++ List.replicate k 0
  | [], f, _, _ => ⟨0, by cases f <;> simp [digs, worth]⟩
  | x :: l, 0, _, h => by simp at h
  | x :: l, f + 1, h, hl => by
    obtain ⟨k, e⟩ := digs_worth hb l f (fun y hy => h y (by simp [hy])) (by simpa using hl)
    have hx := h x (by simp)
    have hm : worth b (x :: l) % b = x := by
      simp only [worth]
      rw [Nat.add_mul_mod_self_left]
      exact Nat.mod_eq_of_lt hx
    have hd : worth b (x :: l) / b = worth b l := by
      simp only [worth]
      rw [Nat.add_mul_div_left _ _ (by omega), Nat.div_eq_of_lt hx, Nat.zero_add]
    by_cases h0 : worth b (x :: l) = 0
    · have hx0 : x = 0 := by rw [← hm, h0]; rfl
      have hw : worth b l = 0 := by rw [← hd, h0]; simp
      rw [hw] at e
      have hz : digs b f 0 = [] := by cases f <;> simp [digs]
      rw [hz, List.nil_append] at e
      refine ⟨k + 1, ?_⟩
      rw [h0]
      simp only [digs, if_true, List.nil_append, List.replicate_succ, hx0]
      rw [← e]
    · refine ⟨k, ?_⟩
      show x :: l = (if worth b (x :: l) = 0 then [] else worth b (x :: l) % b :: digs b f (worth b (x :: l) / b)) ++ _
      rw [if_neg h0, hm, hd, List.cons_append, ← e]
theorem sum_zero {b : Nat} (hb : 2 ≤ b) : ∀ (l : List Nat), worth b l = 0 ↔ l.sum = 0
  | [] => by simp [worth]
  | x :: l => by
    have ih := sum_zero hb l
    simp only [worth, List.sum_cons]
    have : b * worth b l = 0 ↔ worth b l = 0 := by
      rw [Nat.mul_eq_zero]
      omega
    omega
/-- a power has just one figure, a one -/
theorem pow_sum {b : Nat} (hb : 2 ≤ b) : ∀ (l : List Nat) (f : Nat), (∀ x ∈ l, x < b) → l.length ≤ f → 0 < worth b l → (pwr b f (worth b l) = worth b l ↔ l.sum = 1)
  | [], f, _, _, h => by simp [worth] at h
  | x :: l, 0, _, h, _ => by simp at h
  | x :: l, f + 1, h, hl, h0 => by
    have hx := h x (by simp)
    have hm : worth b (x :: l) % b = x := by
      simp only [worth]
      rw [Nat.add_mul_mod_self_left]
      exact Nat.mod_eq_of_lt hx
    have hd : worth b (x :: l) / b = worth b l := by
      simp only [worth]
      rw [Nat.add_mul_div_left _ _ (by omega), Nat.div_eq_of_lt hx, Nat.zero_add]
    have hs := sum_zero hb l
    unfold pwr
    rw [hm, hd]
    by_cases hz : x = 0
    · subst hz
      have hw : 0 < worth b l := by
        rcases Nat.eq_zero_or_pos (worth b l) with z | z
        · simp [worth, z] at h0
        · exact z
      have ih := pow_sum hb l f (fun y hy => h y (by simp [hy])) (by simpa using hl) hw
      simp only [if_true, worth, Nat.zero_add, List.sum_cons]
      rw [← ih]
      constructor
      · intro e
        exact Nat.eq_of_mul_eq_mul_left (by omega) e
      · intro e
        rw [e]
    · simp only [hz, if_false, worth, List.sum_cons]
      have hbw : b * worth b l = 0 ∨ 2 ≤ b * worth b l := by
        rcases Nat.eq_zero_or_pos (worth b l) with z | z
        · left; rw [z]; simp
        · right
          calc 2 ≤ b * 1 := by omega
            _ ≤ b * worth b l := Nat.mul_le_mul_left b z
      have hbz : b * worth b l = 0 ↔ worth b l = 0 := by
        rw [Nat.mul_eq_zero]
        omega
      omega
end K01
end
section
set_option linter.all false
set_option maxRecDepth 100000
namespace K01
open PySem Fr
/-! ### the length of what is shown -/
structure Sm (B e : Nat) (d : D) : Prop where
  sh : PyData.showable (py d) = true
  ln : (PyData.shown (py d)).length ≤ B
  dp : PyData.depth (py d) ≤ e
theorem pile_le {B e : Nat} : ∀ (xs : List D), (∀ d ∈ xs, Sm B e d) → piled (PyData.shownAll (pys xs)) ≤ xs.length * (B + 2)
  | [], _ => by simp [pys, PyData.shownAll, piled]
  | d :: r, h => by
    have h1 := (h d (by simp)).ln
    have ih := pile_le r fun x hx => h x (by simp [hx])
    simp only [pys, PyData.shownAll, piled_cons, List.length_cons]
    rw [Nat.add_mul]
    omega
theorem all_sh {B e : Nat} : ∀ (xs : List D), (∀ d ∈ xs, Sm B e d) → PyData.showableAll (pys xs) = true ∧ PyData.depthAll (pys xs) ≤ e
  | [], _ => ⟨rfl, Nat.zero_le _⟩
  | d :: r, h => by
    obtain ⟨i1, i2⟩ := all_sh r fun x hx => h x (by simp [hx])
    have h1 := h d (by simp)
    simp only [pys, PyData.showableAll, PyData.depthAll, h1.sh, i1, Bool.and_self, true_and]
    exact Nat.max_le.mpr ⟨h1.dp, i2⟩
theorem sm_tup {B e n : Nat} {xs : List D} (h : ∀ d ∈ xs, Sm B e d) (hn : xs.length ≤ n) : Sm (n * (B + 2) + 3) (e + 1) (.tup xs) := by
  obtain ⟨i1, i2⟩ := all_sh xs h
  refine ⟨by simpa [py, PyData.showable] using i1, ?_, by simp [py, PyData.depth]; omega⟩
  have hp := Nat.le_trans (pile_le xs h) (Nat.mul_le_mul_right (B + 2) hn)
  show (tupleText (PyData.shownAll (pys xs))).length ≤ n * (B + 2) + 3
  have e0 : (tupleText (PyData.shownAll (pys xs))).length ≤ 1 + (Str.join ", " (PyData.shownAll (pys xs))).length + 2 := by
    unfold tupleText
    rw [strLen_append, strLen_append]
    split
    · exact Nat.le_refl _
    · show 1 + _ + 1 ≤ _; omega
  by_cases h0 : PyData.shownAll (pys xs) = []
  · rw [h0] at e0 ⊢
    have : (Str.join ", " ([] : List Str)).length = 0 := rfl
    omega
  · have := join_length_add _ h0
    omega
theorem textFrom_le : ∀ (ts : List Str) (k : Nat) (acc : Str), (textFrom k acc ts).length ≤ acc.length + piled ts
  | [], _, acc => by simp [textFrom, piled]
  | t :: ts, k, acc => by
    have ih := textFrom_le ts (k + 1) (acc ++ (if k > 0 then ", " else "" : String) ++ t)
    rw [strLen_append, strLen_append] at ih
    have h2 : ((if k > 0 then ", " else "" : String) : Str).length ≤ 2 := by split <;> decide
    simp only [textFrom, piled_cons]
    omega
theorem sm_lst {B e n : Nat} {xs : List D} (o : Bool) (h : ∀ d ∈ xs, Sm B e d) (hn : xs.length ≤ n) : Sm (n * (B + 2) + 3) (e + 1) (.lst o xs) := by
  obtain ⟨i1, i2⟩ := all_sh xs h
  refine ⟨by simpa [py, PyData.showable] using i1, ?_, by simp [py, PyData.depth]; omega⟩
  have hp := Nat.le_trans (pile_le xs h) (Nat.mul_le_mul_right (B + 2) hn)
  show (listText (PyData.shownAll (pys xs))).length ≤ n * (B + 2) + 3
  have := textFrom_le (PyData.shownAll (pys xs)) 0 "["
  unfold listText
  rw [strLen_append]
  have h1 : ((("[" : String)) : Str).length = 1 := rfl
  have h2 : ((("]" : String)) : Str).length = 1 := rfl
  omega
theorem sm_int {i : Int} {k : Nat} (hk : 0 < k) (h : i.natAbs < 10 ^ k) (h2 : i.natAbs.log2 < 1920) : Sm (k + 1) 0 (.int i) :=
  ⟨by simpa [py, PyData.showable] using h2, by
    show (Str.ofString (toString i)).length ≤ k + 1
    have := int_text_length_le10 hk h
    rw [ofString_length]; exact this, Nat.zero_le _⟩
theorem okR_sm {B e : Nat} {d : D} (h : Sm B e d) (hb : B ≤ 16777216) (he : e ≤ 40) : okR d := ⟨h.sh, Nat.le_trans h.ln hb, Nat.le_trans h.dp he⟩
theorem sm_fig {x : Nat} (h : x < 10) : Sm 2 0 (.int (x : Nat)) := sm_int (k := 1) (by decide) (by simpa using h) (by
  have : x.log2 ≤ x := Nat.log2_le_self x
  simp
  omega)
theorem sm_row {l : List Nat} (h : ∀ x ∈ l, x < 10) (hl : l.length ≤ 400) : Sm (400 * 4 + 3) 1 (.tup (nn l)) := sm_tup (fun d hd => by
  obtain ⟨x, hx, rfl⟩ := List.mem_map.mp hd
  exact sm_fig (h x hx)) (by simpa using hl)
end K01
end
section
set_option linter.all false
set_option maxRecDepth 100000
set_option exponentiation.threshold 3000
namespace K01
open PySem Fr
/-! ### a number is right -/
theorem two_like (m : Nat) {a : D} {B : Nat} (ha : Sm B 3 a) (hB : B ≤ 1000000) : runP P (m + 1) 10 [.lst false [a, a], .lst false [a, a]] = some (.bl true, none) := by
  have h := sm_lst (n := 2) false (xs := [a, a]) (fun d hd => by
    rcases List.mem_cons.mp hd with e | e
    · rw [e]; exact ha
    · rw [List.mem_singleton.mp e]; exact ha) (by simp)
  exact same m (okR_sm h (by omega) (by decide)) (okR_sm h (by omega) (by decide)) rfl rfl
theorem three_like (m : Nat) {a : D} {B : Nat} (ha : Sm B 3 a) (hB : B ≤ 1000000) : runP P (m + 1) 10 [.lst false [a, a, a], .lst false [a, a, a]] = some (.bl true, none) := by
  have h := sm_lst (n := 3) false (xs := [a, a, a]) (fun d hd => by
    simp only [List.mem_cons, List.not_mem_nil, or_false] at hd
    rcases hd with e | e | e <;> (rw [e]; exact ha)) (by simp)
  exact same m (okR_sm h (by omega) (by decide)) (okR_sm h (by omega) (by decide)) rfl rfl
theorem one_like (m : Nat) {a : D} {B : Nat} (ha : Sm B 3 a) (hB : B ≤ 1000000) : runP P (m + 1) 10 [a, a] = some (.bl true, none) :=
  same m (okR_sm ha (by omega) (by decide)) (okR_sm ha (by omega) (by decide)) rfl rfl
theorem Sm.up {B e e' : Nat} {d : D} (h : Sm B e d) (g : e ≤ e') : Sm B e' d := ⟨h.sh, h.ln, Nat.le_trans h.dp g⟩
theorem digs_cut {b : Nat} (hb : 2 ≤ b) {n k : Nat} (h : n < 2 ^ k) : ∀ j, digs b (k + j) n = digs b k n
  | 0 => rfl
  | j + 1 => by
    rw [← Nat.add_assoc, digs_more b hb (k + j) n (Nat.lt_of_lt_of_le h (Nat.pow_le_pow_right (by decide) (by omega)))]
    exact digs_cut hb h j
theorem t30_100 : (10 : Nat) ^ 30 < 2 ^ 100 := by decide +kernel
theorem digs_small {b n : Nat} (hb : 2 ≤ b) (h : n ≤ 10 ^ 30) : digs b 399 n = digs b 100 n := digs_cut hb (k := 100) (Nat.lt_of_le_of_lt h t30_100) 299
theorem pwr_le {b : Nat} (hb : 2 ≤ b) : ∀ (f n : Nat), 0 < n → pwr b f n ≤ n
  | 0, n, h => h
  | f + 1, n, h => by
    unfold pwr
    split
    · rename_i hz
      have hd : b * (n / b) = n := Nat.mul_div_cancel' (Nat.dvd_of_mod_eq_zero hz)
      have hp : 0 < n / b := by
        rcases Nat.eq_zero_or_pos (n / b) with z | z
        · rw [z] at hd; omega
        · exact z
      calc b * pwr b f (n / b) ≤ b * (n / b) := Nat.mul_le_mul_left b (pwr_le hb f _ hp)
        _ = n := hd
    · exact h
theorem pw_le {b n : Nat} (hb : 2 ≤ b) : pw b n ≤ n := by
  unfold pw
  split
  · omega
  · exact pwr_le hb 400 n (by omega)
theorem log2_30 {x : Nat} (h : x ≤ 10 ^ 30) : x.log2 < 1920 := by
  have := log2_lt (v := x) (k := 1000) (Nat.lt_of_le_of_lt h (by decide +kernel))
  omega
theorem sm_n30 {x : Nat} (h : x ≤ 10 ^ 30) : Sm 32 0 (.int (x : Nat)) := sm_int (k := 31) (by decide) (by
  rw [Int.natAbs_natCast]
  exact Nat.lt_of_le_of_lt h (by decide)) (by rw [Int.natAbs_natCast]; exact log2_30 h)
theorem long_at {l : List Nat} (hl : l.length ≤ 200) {p : Nat} (h : p < 200) : (l ++ List.replicate (200 - l.length) 0)[p]? = some (l.getD p 0) := by
  rw [List.getD]
  by_cases hp : p < l.length
  · rw [List.getElem?_append_left hp, List.getElem?_eq_getElem hp]
    rfl
  · rw [List.getElem?_append_right (by omega), List.getElem?_eq_none (show l.length ≤ p by omega), List.getElem?_replicate]
    rw [if_pos (by omega)]
    rfl
theorem due18 {F : Calls} {gl : Nat → D} {l : List Nat} (hl : l.length ≤ 100) (p : Nat) (hp : p ≤ 200) {a0 a1 a2 a3 a4 a5 a8 : Option D} : ev F gl (.ife (.op .lt (.var 7) (.con (.int 200))) (.ix (.var 6) (.var 7)) (.con (.int 0))) [a0, a1, a2, a3, a4, a5, some (.tup (nn (l ++ List.replicate (200 - l.length) 0))), some (.int p), a8] = some (.v (.int (l.getD p 0 : Nat)), [a0, a1, a2, a3, a4, a5, some (.tup (nn (l ++ List.replicate (200 - l.length) 0))), some (.int p), a8]) := by
  by_cases h : p < 200
  · have hx := ixN_nat (n := 200) h
    have h' : (p : Int) < 200 := by omega
    have hg := congrArg (Option.map fun x : Nat => D.int (x : Nat)) (long_at (l := l) (by omega) h)
    rw [← nn_at] at hg
    have hlL : (l ++ List.replicate (200 - l.length) 0).length = 200 := by simp; omega
    generalize l ++ List.replicate (200 - l.length) 0 = L at hg hlL ⊢
    generalize l.getD p 0 = x at hg ⊢
    simp at hg
    simp [h', hlL, hx, hg]
  · have e : p = 200 := by omega
    subst e
    have : l.getD 200 0 = 0 := by rw [List.getD, List.getElem?_eq_none (by omega)]; rfl
    rw [this]
    simp
end K01
end
section
set_option linter.all false
set_option maxRecDepth 100000
set_option exponentiation.threshold 3000
namespace K01
open PySem Fr
theorem sm_g {b : Nat} (h3 : b ≤ 3) {l : List Nat} (h : ∀ x ∈ l, x < b) (p : Nat) : Sm 2 0 (.int (l.getD p 0 : Nat)) := by
  apply sm_fig
  rw [List.getD]
  cases e : l[p]? with
  | none => simp
  | some x => have := h x (List.mem_of_getElem? e); simp; omega
theorem fr18 {m : Nat} {gl : Nat → D} {b n : Nat} (hb : 2 ≤ b) (h3 : b ≤ 3) (hn : n < 2 ^ 400) {fl : List Nat} (hfl : digs b 400 n = fl) (hl : fl.length ≤ 100) (hd : ∀ x ∈ fl, x < b) {a2 a3 a4 a5 : Option D} : ∀ (l : List Nat) (o7 o8 : Option D), (∀ x ∈ l, x ≤ 200) →
    ∃ o7' o8', goFor (Fr.execs (runP P (m + 2)) gl L18_0b) (.nm 7) (nn l) [some (.int b), some (.int n), a2, a3, a4, a5, some (.tup (nn (fl ++ List.replicate (200 - fl.length) 0))), o7, o8] = some (.nx, [some (.int b), some (.int n), a2, a3, a4, a5, some (.tup (nn (fl ++ List.replicate (200 - fl.length) 0))), o7', o8'])
  | [], o7, o8, h => ⟨o7, o8, rfl⟩
  | p :: l, o7, o8, h => by
    obtain ⟨o7', o8', ih⟩ := fr18 (m := m) (gl := gl) hb h3 hn hfl hl hd (a2 := a2) (a3 := a3) (a4 := a4) (a5 := a5) l (some (.int p)) (some (.int (fl.getD p 0 : Nat))) fun x hx => h x (by simp [hx])
    refine ⟨o7', o8', ?_⟩
    have hp := h p (by simp)
    have h1 := due18 (F := runP P (m + 2)) (gl := gl) hl p hp (a0 := some (.int b)) (a1 := some (.int n)) (a2 := a2) (a3 := a3) (a4 := a4) (a5 := a5) (a8 := o8)
    have h4 := r4 m hb h3 hn p
    rw [hfl] at h4
    have h10 := one_like (m + 1) ((sm_g h3 hd p).up (by decide : 0 ≤ 3)) (by decide)
    generalize fl ++ List.replicate (200 - fl.length) 0 = L at h1 ih ⊢
    generalize fl.getD p 0 = x at h1 h4 h10 ih ⊢
    rw [nn_cons, goFor_nx (E1 := [some (.int b), some (.int n), a2, a3, a4, a5, some (.tup (nn L)), some (.int p), o8]) (E2 := [some (.int b), some (.int n), a2, a3, a4, a5, some (.tup (nn L)), some (.int p), some (.int x)]) (by simp) ?_, ih]
    rw [L18_0b, exs_cons, ex_asg, h1]
    simp [h4, h10]
theorem mul_t1n (d : D) (a b : Nat) (h : a ≤ 1000) (hb : b ≤ a) : f2 .mul (.tup [d]) (.int ((a : Int) - (b : Int))) = some (.tup (List.replicate (a - b) d)) := by
  have := mul_t1 d (k := a - b) (by omega)
  rwa [Int.ofNat_sub hb] at this
theorem r18 (m : Nat) {b n : Nat} (hb : 2 ≤ b) (h3 : b ≤ 3) (hn : n ≤ 10 ^ 30) (o : Bool) {p0 p1 p2 : Nat} (h0 : p0 ≤ 200) (h1 : p1 ≤ 200) (h2 : p2 ≤ 200) : runP P (m + 3) 18 [.int b, .int n, .lst o (nn [p0, p1, p2])] = some (.bl true, none) := by
  have hn3 : n < 2 ^ 399 := Nat.lt_of_le_of_lt hn (by decide +kernel)
  have hn4 : n < 2 ^ 400 := Nat.lt_trans hn3 (by decide +kernel)
  have e11 := r11 (m + 1) hb h3 hn3
  have e2 := r2 (m + 1) hb h3 hn4
  have eo := own_pw hb hn3
  have hw := worth_digs hb 399 n hn3
  have hd := digs_lt hb 399 n
  have hl := digs_len b 100 n
  rw [← digs_small hb hn] at hl
  have hs := digs_same hb hn3
  rw [hs] at e2 eo
  generalize hfl : digs b 399 n = fl at *
  have e13 := r13 (m + 1) hb h3 (l := fl) (by omega)
  rw [eo] at e13
  have e5 := r5 (m + 1) hb h3 hn4
  have hpw : pw b n ≤ 10 ^ 30 := Nat.le_trans (pw_le hb) hn
  generalize pw b n = p at *
  have sfl := (sm_row (l := fl) (fun x hx => by have := hd x hx; omega) (by omega)).up (by decide : 1 ≤ 3)
  have s1 := two_like (m + 1) sfl (by decide)
  have s2 := two_like (m + 1) ((sm_n30 hpw).up (by decide : 0 ≤ 3)) (by decide)
  have s3 := three_like (m + 1) ((sm_n30 hn).up (by decide : 0 ≤ 3)) (by decide)
  have hlen : (nn fl).length = fl.length := by simp
  have hmul : f2 .mul (.tup [.int 0]) (.int (200 - (fl.length : Int))) = _ := mul_t1n (.int 0) 200 fl.length (by decide) (by omega)
  rw [zeros'] at hmul
  have hL : (fl ++ List.replicate (200 - fl.length) 0).length = 200 := by simp; omega
  have e3a := r3 (m + 1) hb h3 (l := fl) hd (by omega)
  have e3b := r3 (m + 1) hb h3 (l := fl ++ List.replicate (200 - fl.length) 0) (fun x hx => by
    rcases List.mem_append.mp hx with h | h
    · exact hd x h
    · have := List.eq_of_mem_replicate h
      omega) (by omega)
  have e3c := r3 (m + 1) hb h3 (l := fl ++ [0]) (fun x hx => by
    rcases List.mem_append.mp hx with h | h
    · exact hd x h
    · have := List.mem_singleton.mp h
      omega) (by simp; omega)
  have wz : ∀ k, worth b (List.replicate k 0) = 0 := fun k => by
    induction k with
    | zero => rfl
    | succ k ih => simp [List.replicate_succ, worth, ih]
  rw [worth_app, wz, hw] at e3b
  rw [worth_app, hw] at e3c
  rw [hw] at e3a
  simp only [Nat.mul_zero, Nat.add_zero, worth] at e3b e3c
  obtain ⟨o7, o8, g⟩ := fr18 (m := m) (gl := P.gl) hb h3 hn4 hs hl hd (a2 := some (.lst o (nn [p0, p1, p2]))) (a3 := some (.tup (nn fl))) (a4 := some (.int p)) (a5 := some (.lst true [.int p, .int p])) ([0, fl.length - 1, fl.length, 199, 200] ++ [p0, p1, p2]) none none (by
    intro x hx
    simp only [List.cons_append, List.nil_append, List.mem_cons, List.not_mem_nil, or_false] at hx
    omega)
  have e8 : 8 ≤ sizeLine := by decide
  have hmax : (if 1 < (fl.length : Int) then (fl.length : Int) - 1 else 0) = ((fl.length - 1 : Nat) : Int) := by split <;> omega
  have hlong : (nn fl).length + (200 - fl.length) ≤ sizeLine := Nat.le_trans (show _ ≤ 1000 by simp; omega) (by decide)
  have happ : nn fl ++ nn (List.replicate (200 - fl.length) 0) = nn (fl ++ List.replicate (200 - fl.length) 0) := by simp
  have w : Fr.exec (runP P (m + 2)) P.gl L18_0 [some (.int b), some (.int n), some (.lst o (nn [p0, p1, p2])), some (.tup (nn fl)), some (.int p), some (.lst true [.int p, .int p]), some (.tup (nn (fl ++ List.replicate (200 - fl.length) 0))), none, none] = _ := fr_run (by simp [L18_0i, when', hmax, e8]) g
  have hq : runP P (m + 2) 4 [.int b, .int n, .int p0] = some (.int (fl.getD p0 0 : Nat), none) := by rw [← hs]; exact r4 m hb h3 hn4 p0
  have s10 := one_like (m + 1) ((sm_g h3 hd p0).up (by decide : 0 ≤ 3)) (by decide)
  rw [run_at (d := d18) rfl rfl]
  have hpl1 : place (Opd.v .non) [] [1, 0] [Opd.sl 1, Opd.sl 0] = [Opd.sl 0, Opd.sl 1] := rfl
  have hpl2 : place (Opd.v .non) [] [2, 0, 1] [Opd.v (.int p0), Opd.sl 0, Opd.sl 1] = [Opd.sl 0, Opd.sl 1, Opd.v (.int p0)] := rfl
  have hpl3 : place (Opd.v .non) [] [1, 0] [Opd.sl 6, Opd.sl 0] = [Opd.sl 0, Opd.sl 6] := rfl
  have hone : fl.length + 1 ≤ sizeLine := Nat.le_trans (show _ ≤ 1000 by omega) (by decide)
  have h200 : fl.length + (200 - fl.length) = 200 := by omega
  have h200s : 200 ≤ sizeLine := by decide
  have hm3 : f2 .mul (.lst false [D.int n]) (.int 3) = some (.lst true (List.replicate 3 (D.int n))) := mul_l1 false (.int n) (k := 3) (by decide)
  have hat : p0 < 200 → (fl ++ List.replicate (200 - fl.length) 0)[p0]? = some (fl.getD p0 0) := fun h => long_at (by omega) h
  have hge : ¬ p0 < 200 → fl.getD p0 0 = 0 := fun h => by rw [List.getD, List.getElem?_eq_none (by omega)]; rfl
  have ix2 : ixN 2 0 = some 0 := rfl
  have ix3 : ixN 3 0 = some 0 := rfl
  have r3z : List.replicate 3 (D.int n) = [.int n, .int n, .int n] := rfl
  generalize fl ++ List.replicate (200 - fl.length) 0 = L at *
  generalize fl.getD p0 0 = y at *
  simp at e3c
  simp only [nn_cons, nn_nil] at w
  by_cases hp : p0 < 200
  · have hp' : (p0 : Int) < 200 := by omega
    have hix := ixN_nat hp
    simp [-place, ix2, ix3, d18, e11, e13, e2, hpl1, s1, e5, s2, hmul, when', hlong, happ, w, h200, h200s, hm3, hp', hL, hix, hat hp, hpl2, hq, s10, e3a, hpl3, e3b, e3c, hone, r3z, s3]
  · have hp' : ¬ (p0 : Int) < 200 := by omega
    have hz := hge hp
    subst hz
    simp at hq s10
    simp [-place, ix2, ix3, d18, e11, e13, e2, hpl1, s1, e5, s2, hmul, when', hlong, happ, w, h200, h200s, hm3, hp', hpl2, hq, s10, e3a, hpl3, e3b, e3c, hone, r3z, s3]
end K01
end
section
set_option linter.all false
set_option maxRecDepth 100000
set_option exponentiation.threshold 3000
namespace K01
open PySem Fr
theorem intsD_nn : ∀ l : List Nat, intsD (nn l) = some (l.map fun x => ((x : Nat) : Int))
  | [] => rfl
  | x :: r => by simp [intsD, intsD_nn r]
theorem sum_cast : ∀ l : List Nat, (l.map fun x => ((x : Nat) : Int)).sum = ((l.sum : Nat) : Int)
  | [] => rfl
  | x :: r => by simp [sum_cast r]
theorem sum_nn (l : List Nat) : b1 .sum (.tup (nn l)) = some (.int ((l.sum : Nat) : Int)) := by
  simp only [b1, intsD_nn, Option.map_some, sum_cast]
theorem cut_lo (l : List D) (k : Nat) : cut l (some (k : Int)) none = l.drop k := by
  unfold cut
  rw [show HT.sIx l.length l.length none = l.length from HT.sIx_none _ _, show HT.sIx l.length 0 (some (k : Int)) = min k l.length from HT.sIx_nat l.length 0 k]
  by_cases h : k ≤ l.length
  · rw [Nat.min_eq_left h]
    exact List.take_of_length_le (by simp)
  · rw [Nat.min_eq_right (by omega), List.drop_eq_nil_of_le (Nat.le_refl _), List.drop_eq_nil_of_le (by omega)]
    simp
theorem cut_hi (l : List D) (k : Nat) : cut l none (some (k : Int)) = l.take k := by
  unfold cut
  rw [show HT.sIx l.length 0 none = 0 from HT.sIx_none _ _, show HT.sIx l.length l.length (some (k : Int)) = min k l.length from HT.sIx_nat l.length l.length k]
  by_cases h : k ≤ l.length
  · rw [Nat.min_eq_left h]; rfl
  · rw [Nat.min_eq_right (by omega), List.take_of_length_le (show l.length ≤ k by omega)]
    exact List.take_of_length_le (by simp)
theorem worth_big {b : Nat} (hb : 2 ≤ b) (h3 : b ≤ 3) {l : List Nat} (hd : ∀ x ∈ l, x < b) (hl : l.length ≤ 200) : worth b l < 2 ^ 399 ∧ worth b l < 10 ^ 200 ∧ (worth b l).log2 < 1920 := by
  have h1 := worth_lt (b := b) (by omega) hd
  have h2 : b ^ l.length ≤ 3 ^ 200 := Nat.le_trans (Nat.pow_le_pow_left h3 _) (Nat.pow_le_pow_right (by decide) hl)
  have h4 : worth b l < 3 ^ 200 := Nat.lt_of_lt_of_le h1 h2
  refine ⟨Nat.lt_trans h4 (by decide +kernel), Nat.lt_trans h4 (by decide +kernel), ?_⟩
  have := log2_lt (v := worth b l) (k := 1000) (Nat.lt_trans h4 (by decide +kernel))
  omega
theorem r19 (m : Nat) {b : Nat} (hb : 2 ≤ b) (h3 : b ≤ 3) {l : List Nat} (hd : ∀ x ∈ l, x < b) (hl : l.length ≤ 200) : runP P (m + 3) 19 [.int b, .tup (nn l)] = some (.bl true, none) := by
  obtain ⟨hw1, hw2, hw3⟩ := worth_big hb h3 hd hl
  have hn4 : worth b l < 2 ^ 400 := Nat.lt_trans hw1 (by decide +kernel)
  have e12 := r12 (m + 1) hb h3 hd (by omega)
  have e3a := r3 (m + 1) hb h3 hd (by omega)
  have hL : (l ++ List.replicate (200 - l.length) 0).length = 200 := by simp; omega
  have e3b := r3 (m + 1) hb h3 (l := l ++ List.replicate (200 - l.length) 0) (fun x hx => by
    rcases List.mem_append.mp hx with h | h
    · exact hd x h
    · have := List.eq_of_mem_replicate h
      omega) (by omega)
  have wz : ∀ k, worth b (List.replicate k 0) = 0 := fun k => by
    induction k with
    | zero => rfl
    | succ k ih => simp [List.replicate_succ, worth, ih]
  rw [worth_app, wz, Nat.mul_zero, Nat.add_zero] at e3b
  have happ : nn l ++ nn (List.replicate (200 - l.length) 0) = nn (l ++ List.replicate (200 - l.length) 0) := by simp
  have e2 := r2 (m + 1) hb h3 hn4
  have e5 := r5 (m + 1) hb h3 hn4
  obtain ⟨k, hk⟩ := digs_worth hb l 400 hd (by omega)
  have hpow : pw b (worth b l) = worth b l ↔ (l.sum = 1 ∨ worth b l = 0) := by
    unfold pw
    by_cases h0 : worth b l = 0
    · simp [h0]
    · simp only [h0, if_false, or_false]
      exact pow_sum hb l 400 hd (by omega) (by omega)
  have sw : Sm 201 3 (.int (worth b l : Nat)) := (sm_int (k := 200) (by decide) (by rw [Int.natAbs_natCast]; exact hw2) (by rw [Int.natAbs_natCast]; exact hw3)).up (by decide)
  have s3 := three_like (m + 1) sw (by decide)
  have hm3 : f2 .mul (.lst false [D.int (worth b l)]) (.int 3) = some (.lst true (List.replicate 3 (D.int (worth b l)))) := mul_l1 false (.int (worth b l)) (k := 3) (by decide)
  have r3z : List.replicate 3 (D.int (worth b l)) = [.int (worth b l), .int (worth b l), .int (worth b l)] := rfl
  have hmul : f2 .mul (.tup [.int 0]) (.int (200 - (l.length : Int))) = _ := mul_t1n (.int 0) 200 l.length (by decide) (by omega)
  rw [zeros'] at hmul
  have h200 : l.length + (200 - l.length) = 200 := by omega
  have h200s : 200 ≤ sizeLine := by decide
  generalize hfl : digs b 400 (worth b l) = fl at *
  have hkl : l.length = fl.length + k := by rw [hk]; simp
  have hml2 : f2 .mul (.tup [.int 0]) (.int ((l.length : Int) - (fl.length : Int))) = _ := mul_t1n (.int 0) l.length fl.length (by omega) (by omega)
  rw [zeros'] at hml2
  have htake : (nn l).take fl.length = nn fl := by
    rw [hk]; simp [nn]
  have hdrop : (nn l).drop fl.length = nn (List.replicate (l.length - fl.length) 0) := by
    have : l.length - fl.length = k := by omega
    rw [this, hk]; simp [nn]
  have hcl := cut_lo (nn l) fl.length
  have hch := cut_hi (nn l) fl.length
  rw [htake] at hch
  rw [hdrop] at hcl
  have sfl := (sm_row (l := fl) (fun x hx => by have := hd x (by rw [hk]; simp [hx]); omega) (by omega)).up (by decide : 1 ≤ 3)
  have sz := (sm_row (l := List.replicate (l.length - fl.length) 0) (fun x hx => by have := List.eq_of_mem_replicate hx; omega) (by simp; omega)).up (by decide : 1 ≤ 3)
  have s10 := one_like (m + 1) sfl (by decide)
  have s11 := one_like (m + 1) sz (by decide)
  have hsum := intsD_nn l
  have hsum2 := sum_cast l
  generalize (l.map fun x => ((x : Nat) : Int)) = li at *
  rw [run_at (d := d19) rfl rfl]
  have hpl : place (Opd.v .non) [] [0, 1] [Opd.sl 0, Opd.sl 1] = [Opd.sl 0, Opd.sl 1] := rfl
  generalize l ++ List.replicate (200 - l.length) 0 = L at *
  generalize List.replicate (l.length - fl.length) 0 = Z at *
  generalize worth b l = v at *
  generalize pw b v = p at *
  by_cases hs : l.sum = 1
  · have hp : p = v := hpow.mpr (.inl hs)
    simp [-place, d19, e12, e3a, e3b, hpl, happ, hmul, when', h200, h200s, hm3, r3z, s3, e2, e5, hs, hp, hcl, hch, hml2, s10, s11, hsum, hsum2]
  · by_cases hv : v = 0
    · have hp : p = v := hpow.mpr (.inr hv)
      subst hp
      subst hv
      have hs' : ¬ ((l.sum : Nat) : Int) = 1 := by omega
      simp only [Int.natCast_zero] at e12 e3a e3b s3 hm3 r3z e2 e5
      simp [-place, d19, e12, e3a, e3b, hpl, happ, hmul, when', h200, h200s, hm3, r3z, s3, e2, e5, hs', hcl, hch, hml2, s10, s11, hsum, hsum2]
    · have hp : ¬ p = v := fun e => by
        rcases hpow.mp e with h | h
        · exact hs h
        · exact hv h
      have hs' : ¬ ((l.sum : Nat) : Int) = 1 := by omega
      have hp' : ¬ (p : Int) = v := by omega
      have hv' : ¬ (v : Int) = 0 := by omega
      simp [-place, d19, e12, e3a, e3b, hpl, happ, hmul, when', h200, h200s, hm3, r3z, s3, e2, e5, hs', hp', hcl, hch, hml2, s10, s11, hsum, hsum2, hv', hv, hp]
end K01
end
section
set_option linter.all false
set_option maxRecDepth 100000
set_option exponentiation.threshold 3000
namespace K01
open PySem Fr
/-! ### values drawn -/
theorem Sm.w {B e B' e' : Nat} {d : D} (h : Sm B e d) (g1 : B ≤ B') (g : e ≤ e') : Sm B' e' d := ⟨h.sh, Nat.le_trans h.ln g1, Nat.le_trans h.dp g⟩
def Vi (d : D) : Prop := Sm 45 2 d
def Vv (d : D) : Prop := Sm 10000 4 d
def smb (B e : Nat) (d : D) : Bool := PyData.showable (py d) && decide ((PyData.shown (py d)).length ≤ B) && decide (PyData.depth (py d) ≤ e)
theorem sm_of {B e : Nat} {d : D} (h : smb B e d = true) : Sm B e d := by
  unfold smb at h
  simp only [Bool.and_eq_true, decide_eq_true_eq] at h
  exact ⟨h.1.1, h.1.2, h.2⟩
theorem vtup {ys : List D} (h : ∀ d ∈ ys, Vi d) (hl : ys.length ≤ 201) : Vv (.tup ys) := (sm_tup h hl).w (by decide) (by decide)
theorem vlst {ys : List D} (o : Bool) (h : ∀ d ∈ ys, Vi d) (hl : ys.length ≤ 201) : Vv (.lst o ys) := (sm_lst o h hl).w (by decide) (by decide)
theorem vi_nn {l : List Nat} (h : ∀ x ∈ l, x < 10) : ∀ d ∈ nn l, Vi d := fun d hd => by
  obtain ⟨x, hx, rfl⟩ := List.mem_map.mp hd
  exact (sm_fig (h x hx)).w (by decide) (by decide)
theorem vi_vv {d : D} (h : Vi d) : Vv d := Sm.w h (by decide) (by decide)
theorem fz_idem {d e : D} (h : fz d = e) : fz e = e := by rw [← h, fz_fz]
theorem fzs_mem : ∀ {xs : List D}, fzs xs = xs → ∀ v ∈ xs, fz v = v
  | [], _, v, hv => by cases hv
  | a :: r, h, v, hv => by
    simp only [fzs, List.cons.injEq] at h
    rcases List.mem_cons.mp hv with e | e
    · rw [e]; exact h.1
    · exact fzs_mem h.2 v e
theorem pick_sl {m : Nat} {gl : Nat → D} (c : List Nat) (x y : Nat) (hy : y < 2 ^ 31) {e1 e2 : Option D} {d3 : D} {xs : List D} (h3 : fz d3 = .lst false xs) (hx : xs ≠ []) (hl : xs.length ≤ 1000) (r : List (Option D)) :
    ∃ v c' x' y' d3', v ∈ xs ∧ y' < 2 ^ 31 ∧ fz d3' = .lst false xs ∧ fz v = v ∧ ev (runP P (m + 2)) gl (.call 9 (some 0) (.cons (.var 0) (.cons (.var 3) .nil))) (some (bagD c x y) :: e1 :: e2 :: some d3 :: r) = some (.v v, some (bagD c' x' y') :: e1 :: e2 :: some d3' :: r) := by
  have hf : fzs xs = xs := by
    have := fz_idem h3
    simpa using this
  obtain ⟨v, c', x', y', h1, h2, h4⟩ := r9 m c x y hy hx hl
  rw [hf] at h1
  have hv : fz v = v := fzs_mem hf v h1
  by_cases hn : nof v = true
  · exact ⟨v, c', x', y', d3, h1, h2, h3, hv, by simp [h3, h4, hn]⟩
  · exact ⟨v, c', x', y', .lst false xs, h1, h2, fz_idem h3, hv, by simp [h3, h4, hn]⟩
/-- a pick of a list that stands there -/
theorem pick_v {m : Nat} {gl : Nat → D} (c : List Nat) (x y : Nat) (hy : y < 2 ^ 31) {xs : List D} {es : Exs} (r : List (Option D)) {b1 : List Nat} (hx : xs ≠ []) (hl : xs.length ≤ 1000) (he : ∀ c x y, ev (runP P (m + 2)) gl (.lst es) (some (bagD c x y) :: r) = some (.v (.lst true xs), some (bagD c x y) :: r)) :
    ∃ v c' x' y', v ∈ fzs xs ∧ y' < 2 ^ 31 ∧ ev (runP P (m + 2)) gl (.call 9 (some 0) (.cons (.var 0) (.cons (.lst es) .nil))) (some (bagD c x y) :: r) = some (.v v, some (bagD c' x' y') :: r) := by
  have hx' : fzs xs ≠ [] := by rw [fzs_map]; simpa using hx
  obtain ⟨v, c', x', y', h1, h2, h4⟩ := r9 m c x y hy hx' (by rw [fzs_map]; simpa using hl)
  rw [fzs_fzs] at h1
  refine ⟨v, c', x', y', h1, h2, ?_⟩
  have h0 := he c x y
  simp only [ev_call, evs, ev_var, get_zero, Option.map_some, Option.bind_some, h0]
  by_cases hn : nof v = true
  · simp [h4, hn]
  · simp [h4, hn]
end K01
end
section
set_option linter.all false
set_option maxRecDepth 100000
set_option exponentiation.threshold 3000
namespace K01
open PySem Fr
theorem mem_add3 {P : D → Prop} {a b c : List D} (ha : ∀ d ∈ a, P d) (hb : ∀ d ∈ b, P d) (hc : ∀ d ∈ c, P d) : ∀ d ∈ a ++ b ++ c, P d := fun d h => by
  simp only [List.mem_append] at h
  rcases h with (h | h) | h
  · exact ha d h
  · exact hb d h
  · exact hc d h
theorem nn_take (l : List Nat) (k : Nat) : (nn l).take k = nn (l.take k) := by simp [nn]
theorem nn_drop (l : List Nat) (k : Nat) : (nn l).drop k = nn (l.drop k) := by simp [nn]
theorem snoc_mem {P : D → Prop} {xs : List D} {d : D} (h : ∀ v ∈ xs, P v) (hd : P d) : ∀ v ∈ xs ++ [d], P v := fun v hv => by
  rcases List.mem_append.mp hv with e | e
  · exact h v e
  · rw [List.mem_singleton.mp e]; exact hd
theorem sz1000 {n : Nat} (h : n ≤ 1000) : n ≤ sizeLine := Nat.le_trans h (by decide)
theorem szl1000 {n : Nat} (h : n ≤ 1000) : n < sizeLine := Nat.lt_of_le_of_lt h (by decide)
theorem when_le {α : Type} {n : Nat} {x : α} (h : n ≤ 1000000) : when' (decide (n ≤ sizeLine)) x = some x := when'_true (decide_eq_true (Nat.le_trans h (by decide)))
theorem when_lt {α : Type} {n : Nat} {x : α} (h : n ≤ 1000000) : when' (decide (n < sizeLine)) x = some x := when'_true (decide_eq_true (sz_line h))
section
variable {m : Nat} {gl : Nat → D} {b : Nat} {l : List Nat} {od : List D}
theorem fr17 (h10 : ∀ x ∈ l, x < 10) (hl : l.length ≤ 200) (hod : od ≠ []) (hol : od.length ≤ 1000) (hov : ∀ v ∈ od, Vi v) {o5 o7 o8 o9 : Option D} : ∀ (ps : List Nat) (c : List Nat) (x y : Nat) (d3 : D) (xs : List D) (o6 : Option D), y < 2 ^ 31 → fz d3 = .lst false od → (∀ v ∈ xs, Vv v) → xs.length + ps.length ≤ 1000 →
    (∀ p ∈ ps, p < l.length) → ∃ c' x' y' d3' xs' o6', y' < 2 ^ 31 ∧ fz d3' = .lst false od ∧ (∀ v ∈ xs', Vv v) ∧ xs'.length = xs.length + ps.length ∧
      goFor (Fr.execs (runP P (m + 2)) gl L17_0b) (.nm 6) (nn ps) [some (bagD c x y), some (.int b), some (.tup (nn l)), some d3, some (.lst true xs), o5, o6, o7, o8, o9] = some (.nx, [some (bagD c' x' y'), some (.int b), some (.tup (nn l)), some d3', some (.lst true xs'), o5, o6', o7, o8, o9])
  | [], c, x, y, d3, xs, o6, hy, h3, hxs, hlen, hps => ⟨c, x, y, d3, xs, o6, hy, h3, hxs, rfl, rfl⟩
  | p :: ps, c, x, y, d3, xs, o6, hy, h3, hxs, hlen, hps => by
    obtain ⟨v, c1, x1, y1, d31, hv, hy1, h31, hfv, he⟩ := pick_sl (m := m) (gl := gl) c x y hy (e1 := some (.int b)) (e2 := some (.tup (nn l))) h3 hod hol [some (.lst true xs), o5, some (.int p), o7, o8, o9]
    have hp : p < l.length := hps p (by simp)
    have hvv : Vv (.tup (nn (l.take p) ++ [v] ++ nn (l.drop (p + 1)))) := vtup (mem_add3 (vi_nn fun x hx => h10 x (List.mem_of_mem_take hx)) (fun d hd => by rw [List.mem_singleton.mp hd]; exact hov v hv) (vi_nn fun x hx => h10 x (List.mem_of_mem_drop hx))) (by simp; omega)
    obtain ⟨c', x', y', d3', xs', o6', g1, g2, g3, g4, ih⟩ := fr17 h10 hl hod hol hov (o5 := o5) (o7 := o7) (o8 := o8) (o9 := o9) ps c1 x1 y1 d31 (xs ++ [.tup (nn (l.take p) ++ [v] ++ nn (l.drop (p + 1)))]) (some (.int p)) hy1 h31 (snoc_mem hxs hvv) (by simp at hlen ⊢; omega) fun q hq => hps q (by simp [hq])
    refine ⟨c', x', y', d3', xs', o6', g1, g2, g3, by simp at g4 ⊢; omega, ?_⟩
    have k1 := cut_hi (nn l) p
    have k2 := cut_lo (nn l) (p + 1)
    rw [nn_take] at k1
    rw [nn_drop] at k2
    have e5 : ((p + 1 : Nat) : Int) = (p : Int) + 1 := by simp
    rw [e5] at k2
    simp only [List.length_cons] at hlen
    rw [nn_cons, goFor_nx (E1 := [some (bagD c x y), some (.int b), some (.tup (nn l)), some d3, some (.lst true xs), o5, some (.int p), o7, o8, o9]) (E2 := [some (bagD c1 x1 y1), some (.int b), some (.tup (nn l)), some d31, some (.lst true (xs ++ [.tup (nn (l.take p) ++ [v] ++ nn (l.drop (p + 1)))])), o5, some (.int p), o7, o8, o9]) (by simp) ?_, ih]
    simp (disch := omega) [-ev_call, L17_0b, he, k1, k2, when_le, when_lt, hfv]
end
end K01
end
section
set_option linter.all false
set_option maxRecDepth 100000
set_option exponentiation.threshold 3000
namespace K01
open PySem Fr
def blk17 : Sts := (.cons (.asg 5 (.op .sub (.blt .len (.cons (.var 2) .nil)) (.con (.int 1)))) (.cons L17_0 (.cons (.par 8 9 (.call 8 (some 0) (.cons (.var 0) (.cons (.blt .len (.cons (.var 2) .nil)) .nil))) (.call 8 (some 0) (.cons (.var 0) (.cons (.blt .len (.cons (.var 2) .nil)) .nil)))) (.cons (.asg 7 (.blt .list (.cons (.var 2) .nil))) (.cons (.six 7 (.var 8) (.call 9 (some 0) (.cons (.var 0) (.cons (.var 3) .nil)))) (.cons (.six 7 (.var 9) (.call 9 (some 0) (.cons (.var 0) (.cons (.var 3) .nil)))) (.cons (.ex (.app 4 (.blt .tuple (.cons (.var 7) .nil)))) (.cons (.ex (.app 4 (.op .add (.sli false true (.var 2) (.con .non) (.var 5)) (.tup (.cons (.con (.bl true)) .nil))))) .nil))))))))
theorem set_mem {P : D → Prop} {xs : List D} {d : D} {i : Nat} (h : ∀ v ∈ xs, P v) (hd : P d) : ∀ v ∈ xs.set i d, P v := fun v hv => by
  rcases List.mem_or_eq_of_mem_set hv with e | e
  · exact h v e
  · rw [e]; exact hd
theorem fzs_P {P : D → Prop} {xs : List D} (hf : ∀ v, P v → P (fz v)) (h : ∀ v ∈ xs, P v) : ∀ v ∈ fzs xs, P v := fun v hv => by
  rw [fzs_map] at hv
  obtain ⟨u, hu, rfl⟩ := List.mem_map.mp hv
  exact hf u (h u hu)
theorem vi_fz {d : D} (h : Vi d) : Vi (fz d) := by
  obtain ⟨a, b, c⟩ := h
  rw [← py_fz] at a b c
  exact ⟨a, b, c⟩
theorem vi_true : Vi (.bl true) := sm_of (by decide +kernel)
section
variable {m : Nat} {gl : Nat → D} {b : Nat} {l : List Nat} {od : List D}
set_option maxHeartbeats 1000000 in
theorem blk17_run (h10 : ∀ x ∈ l, x < 10) (hl : l.length ≤ 200) (hl0 : 0 < l.length) (hod : od ≠ []) (hol : od.length ≤ 1000) (hov : ∀ v ∈ od, Vi v) (c : List Nat) (x y : Nat) (d3 : D) (xs : List D) (hy : y < 2 ^ 31) (h3 : fz d3 = .lst false od) (hxs : ∀ v ∈ xs, Vv v) (hlen : xs.length ≤ 20) :
    ∃ c' x' y' d3' xs' r, y' < 2 ^ 31 ∧ fz d3' = .lst false od ∧ (∀ v ∈ xs', Vv v) ∧ xs'.length ≤ 30 ∧
      Fr.execs (runP P (m + 2)) gl blk17 [some (bagD c x y), some (.int b), some (.tup (nn l)), some d3, some (.lst true xs), none, none, none, none, none] = some (.nx, some (bagD c' x' y') :: some (.int b) :: some (.tup (nn l)) :: some d3' :: some (.lst true xs') :: r) := by
  have bl : ((l.length : Nat) : Int) < 2 ^ 1999 := i1999 (Nat.le_trans hl (by decide +kernel))
  obtain ⟨u1, c1, x1, y1, hu1, hy1, k1⟩ := r8i (m + 1) c x y hy (B := l.length) (by omega) bl
  obtain ⟨c2, x2, y2, d32, xs2, o6, hy2, h32, hxs2, hlen2, g⟩ := fr17 (m := m) (gl := gl) (b := b) h10 hl hod hol hov (o5 := some (.int (l.length - 1 : Nat))) (o7 := none) (o8 := none) (o9 := none) [u1, l.length - 1, 0] c1 x1 y1 d3 xs none hy1 h3 hxs (by simp; omega) (by
    intro p hp
    simp only [List.mem_cons, List.not_mem_nil, or_false] at hp
    omega)
  have w : Fr.exec (runP P (m + 2)) gl L17_0 [some (bagD c x y), some (.int b), some (.tup (nn l)), some d3, some (.lst true xs), some (.int (l.length - 1 : Nat)), none, none, none, none] = _ := fr_run (by simp [L17_0i, k1]) g
  obtain ⟨u2, c3, x3, y3, hu2, hy3, k2⟩ := r8i (m + 1) c2 x2 y2 hy2 (B := l.length) (by omega) bl
  obtain ⟨u3, c4, x4, y4, hu3, hy4, k3⟩ := r8i (m + 1) c3 x3 y3 hy3 (B := l.length) (by omega) bl
  obtain ⟨v1, c5, x5, y5, d35, hv1, hy5, h35, hf1, e1⟩ := pick_sl (m := m) (gl := gl) c4 x4 y4 hy4 (e1 := some (.int b)) (e2 := some (.tup (nn l))) h32 hod hol [some (.lst true xs2), some (.int (l.length - 1 : Nat)), o6, some (.lst true (nn l)), some (.int u2), some (.int u3)]
  obtain ⟨v2, c6, x6, y6, d36, hv2, hy6, h36, hf2, e2⟩ := pick_sl (m := m) (gl := gl) c5 x5 y5 hy5 (e1 := some (.int b)) (e2 := some (.tup (nn l))) h35 hod hol [some (.lst true xs2), some (.int (l.length - 1 : Nat)), o6, some (.lst true ((nn l).set u2 v1)), some (.int u2), some (.int u3)]
  have f2 : ev (runP P (m + 2)) gl (.call 8 (some 0) (.cons (.var 0) (.cons (.blt .len (.cons (.var 2) .nil)) .nil))) [some (bagD c2 x2 y2), some (.int b), some (.tup (nn l)), some d32, some (.lst true xs2), some (.int (l.length - 1 : Nat)), o6, none, none, none] = some (.v (.int u2), [some (bagD c3 x3 y3), some (.int b), some (.tup (nn l)), some d32, some (.lst true xs2), some (.int (l.length - 1 : Nat)), o6, none, none, none]) := by simp [k2]
  have f3 : ev (runP P (m + 2)) gl (.call 8 (some 0) (.cons (.var 0) (.cons (.blt .len (.cons (.var 2) .nil)) .nil))) [some (bagD c3 x3 y3), some (.int b), some (.tup (nn l)), some d32, some (.lst true xs2), some (.int (l.length - 1 : Nat)), o6, none, none, none] = some (.v (.int u3), [some (bagD c4 x4 y4), some (.int b), some (.tup (nn l)), some d32, some (.lst true xs2), some (.int (l.length - 1 : Nat)), o6, none, none, none]) := by simp [k3]
  have hys : ∀ v ∈ ((nn l).set u2 v1).set u3 v2, Vi v := set_mem (set_mem (vi_nn h10) (hov v1 hv1)) (hov v2 hv2)
  have hvt : Vv (.tup (fzs (((nn l).set u2 v1).set u3 v2))) := vtup (fzs_P (fun _ => vi_fz) hys) (by rw [fzs_map]; simp; omega)
  have hvl : Vv (.tup (nn (l.take (l.length - 1)) ++ [.bl true])) := vtup (snoc_mem (vi_nn fun x hx => h10 x (List.mem_of_mem_take hx)) vi_true) (by simp; omega)
  have k4 := cut_hi (nn l) (l.length - 1)
  rw [nn_take] at k4
  have ix1 := ixN_nat (n := l.length) (i := u2) (by omega)
  have ix2 := ixN_nat (n := l.length) (i := u3) (by omega)
  have hlast : (l.length : Int) - 1 = ((l.length - 1 : Nat) : Int) := by omega
  simp only [List.length_cons, List.length_nil] at hlen2
  have hfin : ∀ t : List D, (∀ v ∈ t, Vi v) → ∃ t', fzs t = t' := fun t _ => ⟨_, rfl⟩
  generalize hyy : ((nn l).set u2 v1).set u3 v2 = ys at *
  have hyl : (fzs ys).length ≤ 200 := by rw [← hyy, fzs_map]; simp; omega
  by_cases hn : nofs (fzs ys) = true
  · refine ⟨c6, x6, y6, d36, xs2 ++ [.tup (fzs ys)] ++ [.tup (nn (l.take (l.length - 1)) ++ [.bl true])], [some (.int (l.length - 1 : Nat)), o6, some (.lst true ys), some (.int u2), some (.int u3)], hy6, h36, snoc_mem (snoc_mem hxs2 hvt) hvl, by simp; omega, ?_⟩
    simp (disch := omega) [-ev_call, blk17, hlast, w, f2, f3, e1, e2, ix1, ix2, hyy, hn, when_le, when_lt, k4]
  · refine ⟨c6, x6, y6, d36, xs2 ++ [.tup (fzs ys)] ++ [.tup (nn (l.take (l.length - 1)) ++ [.bl true])], [some (.int (l.length - 1 : Nat)), o6, some (.lst false (fzs ys)), some (.int u2), some (.int u3)], hy6, h36, snoc_mem (snoc_mem hxs2 hvt) hvl, by simp; omega, ?_⟩
    simp (disch := omega) [-ev_call, blk17, hlast, w, f2, f3, e1, e2, ix1, ix2, hyy, hn, when_le, when_lt, k4]
end
end K01
end
section
set_option linter.all false
set_option maxRecDepth 100000
set_option exponentiation.threshold 3000
namespace K01
open PySem Fr
def es14 : Exs := (.cons (.con .non) (.cons (.con (.str "")) (.cons (.con (.str "01")) (.cons (.con (.int 0)) (.cons (.con (.int 1)) (.cons (.con (.bl true)) (.cons (.con (.bl false)) (.cons (.dic [] []) (.cons (.dic [.inl 0] [.int 1]) (.cons (.lst .nil) (.cons (.lst (.cons (.con (.int 0)) .nil)) (.cons (.neg (.con (.int 1))) (.cons (.tup (.cons (.tup (.cons (.con (.int 0)) (.cons (.con (.int 1)) .nil))) .nil)) (.cons (.tup (.cons (.con .non) .nil)) .nil))))))))))))))
def es7 : Exs := (.cons (.tup (.cons (.con (.int 1)) (.cons (.con (.int 0)) .nil))) (.cons (.tup (.cons (.con (.int 0)) (.cons (.con (.int 1)) (.cons (.con (.int 1)) (.cons (.con (.int 2)) .nil))))) (.cons (.tup (.cons (.con (.int 2)) .nil)) (.cons (.tup (.cons (.con (.int 1)) (.cons (.con (.int 1)) (.cons (.con (.int 3)) .nil)))) (.cons (.tup (.cons (.con (.bl false)) .nil)) (.cons (.tup (.cons (.tup .nil) .nil)) (.cons (.tup (.cons (.con (.int 0)) (.cons (.lst (.cons (.con (.int 1)) .nil)) .nil))) .nil)))))))
def xs14 : List D := [.non, .str "", .str "01", .int 0, .int 1, .bl true, .bl false, .dic true [] [], .dic true [.inl 0] [.int 1], .lst true [], .lst true [.int 0], .int (-1), .tup [.tup [.int 0, .int 1]], .tup [.non]]
def xs7 : List D := [.tup [.int 1, .int 0], .tup [.int 0, .int 1, .int 1, .int 2], .tup [.int 2], .tup [.int 1, .int 1, .int 3], .tup [.bl false], .tup [.tup []], .tup [.int 0, .lst true [.int 1]]]
theorem ok14 : (fzs xs14).all (smb 10000 4) = true := by decide +kernel
theorem ok7s : (fzs xs7).all (smb 10000 4) = true := by decide +kernel
def tail17 : Sts := (.cons (.ex (.app 4 (.op .add (.op .mul (.tup (.cons (.con (.int 0)) .nil)) (.con (.int 199))) (.tup (.cons (.call 9 (some 0) (.cons (.var 0) (.cons (.var 3) .nil))) .nil))))) (.cons (.ex (.app 4 (.call 9 (some 0) (.cons (.var 0) (.cons (.lst es14) .nil))))) (.cons (.ex (.app 4 (.call 9 (some 0) (.cons (.var 0) (.cons (.lst es7) .nil))))) (.cons (.ret (.var 4)) .nil))))
section
variable {m : Nat} {gl : Nat → D} {od : List D}
theorem tail17_run (hod : od ≠ []) (hol : od.length ≤ 1000) (hov : ∀ v ∈ od, Vi v) (c : List Nat) (x y : Nat) (d3 : D) (xs : List D) (hy : y < 2 ^ 31) (h3 : fz d3 = .lst false od) (hxs : ∀ v ∈ xs, Vv v) (hlen : xs.length ≤ 40) (e1 e2 : Option D) (r : List (Option D)) :
    ∃ c' x' y' xs' r', y' < 2 ^ 31 ∧ (∀ v ∈ xs', Vv v) ∧
      Fr.execs (runP P (m + 2)) gl tail17 (some (bagD c x y) :: e1 :: e2 :: some d3 :: some (.lst true xs) :: r) = some (.ret (.lst true xs'), some (bagD c' x' y') :: r') := by
  obtain ⟨v, c1, x1, y1, d31, hv, hy1, h31, hfv, k1⟩ := pick_sl (m := m) (gl := gl) c x y hy (e1 := e1) (e2 := e2) h3 hod hol (some (.lst true xs) :: r)
  have hv1 : Vv (.tup (List.replicate 199 (.int 0) ++ [v])) := vtup (snoc_mem (fun d hd => by rw [List.eq_of_mem_replicate hd]; exact (sm_fig (x := 0) (by decide)).w (by decide) (by decide)) (hov v hv)) (by simp)
  have hmul : f2 .mul (.tup [.int 0]) (.int 199) = some (.tup (List.replicate 199 (.int 0))) := mul_t1 (.int 0) (k := 199) (by decide)
  have hz : (List.replicate 199 (D.int 0)).length = 199 := by simp
  have hzf : fzs (List.replicate 199 (D.int 0)) = List.replicate 199 (D.int 0) := by rw [zeros']; simp
  generalize List.replicate 199 (D.int 0) = z at hv1 hmul hz hzf
  obtain ⟨v2, c2, x2, y2, hv2, hy2, k2⟩ := pick_v (m := m) (gl := gl) (es := es14) (xs := xs14) c1 x1 y1 hy1 (e1 :: e2 :: some d31 :: some (.lst true (xs ++ [.tup (z ++ [v])])) :: r) (b1 := []) (by simp [xs14]) (by simp [xs14]) (fun c x y => by simp [es14, xs14])
  obtain ⟨v3, c3, x3, y3, hv3, hy3, k3⟩ := pick_v (m := m) (gl := gl) (es := es7) (xs := xs7) c2 x2 y2 hy2 (e1 :: e2 :: some d31 :: some (.lst true (xs ++ [.tup (z ++ [v])] ++ [v2])) :: r) (b1 := []) (by simp [xs7]) (by simp [xs7]) (fun c x y => by simp [es7, xs7])
  have w2 : Vv v2 := sm_of (List.all_eq_true.mp ok14 v2 hv2)
  have w3 : Vv v3 := sm_of (List.all_eq_true.mp ok7s v3 hv3)
  simp only [List.append_assoc, List.cons_append, List.nil_append] at k3
  refine ⟨c3, x3, y3, xs ++ [.tup (z ++ [v])] ++ [v2] ++ [v3], e1 :: e2 :: some d31 :: none :: r, hy3, snoc_mem (snoc_mem (snoc_mem hxs hv1) w2) w3, ?_⟩
  simp (disch := omega) [-ev_call, -ev_lst, tail17, k1, hmul, hzf, when_le, when_lt, hfv, k2, k3, hz]
end
end K01
end
section
set_option linter.all false
set_option maxRecDepth 100000
set_option exponentiation.threshold 3000
namespace K01
open PySem Fr
def head17 : Sts := (.cons (.asg 3 (.lst (.cons (.var 1) (.cons (.neg (.con (.int 1))) (.cons (.con (.bl true)) (.cons (.con (.bl false)) (.cons (.con .non) (.cons (.con (.str "0")) (.cons (.tup (.cons (.con (.int 0)) .nil)) (.cons (.lst (.cons (.con (.int 1)) .nil)) (.cons (.dic [] []) (.cons (.op .pow (.con (.int 10)) (.con (.int 40))) (.cons (.neg (.var 1)) (.cons (.op .add (.var 1) (.con (.int 1))) (.cons (.neg (.op .pow (.con (.int 10)) (.con (.int 40)))) (.cons (.con (.str "")) (.cons (.con (.int 9)) .nil))))))))))))))))) (.cons (.asg 4 (.lst (.cons (.var 2) (.cons (.op .add (.var 2) (.op .mul (.tup (.cons (.con (.int 0)) .nil)) (.op .sub (.con (.int 200)) (.blt .len (.cons (.var 2) .nil))))) (.cons (.op .add (.var 2) (.op .mul (.tup (.cons (.con (.int 1)) .nil)) (.op .sub (.con (.int 201)) (.blt .len (.cons (.var 2) .nil))))) (.cons (.blt .list (.cons (.var 2) .nil)) (.cons (.blt .list (.cons (.op .add (.var 2) (.tup (.cons (.var 1) .nil))) .nil)) .nil))))))) (.cons (.ex (.app 4 (.op .add (.op .add (.tup (.cons (.var 1) .nil)) (.sli true false (.var 2) (.con (.int 1)) (.con .non))) (.op .mul (.tup (.cons (.con (.int 0)) .nil)) (.op .sub (.con (.int 201)) (.blt .max (.cons (.con (.int 1)) (.cons (.blt .len (.cons (.var 2) .nil)) .nil)))))))) .nil)))
theorem when_t {α : Type} (x : α) : when' true x = some x := when'_true rfl
def apS : Sts → Sts → Sts
  | .nil, b => b
  | .cons s r, b => .cons s (apS r b)
theorem bd17 : d17.bd = apS head17 (.cons (.ife (.op .ne (.var 2) (.tup .nil)) blk17 .nil) tail17) := rfl
theorem exs_ap {F : Calls} {gl : Nat → D} : ∀ (a b : Sts) (E : Fr.Env), Fr.execs F gl (apS a b) E = (Fr.execs F gl a E).bind fun q => match q.1 with
      | .nx => Fr.execs F gl b q.2
      | f => some (f, q.2)
  | .nil, b, E => by simp [apS]
  | .cons s r, b, E => by
    simp only [apS, exs_cons]
    cases Fr.exec F gl s E with
    | none => rfl
    | some q =>
      obtain ⟨f, E'⟩ := q
      cases f <;> simp [exs_ap r b]
def odds (b : Nat) : List D := [.int b, .int (-1), .bl true, .bl false, .non, .str "0", .tup [.int 0], .lst true [.int 1], .dic true [] [], .int (10 ^ 40), .int (-b), .int (b + 1), .int (-(10 ^ 40)), .str "", .int 9]
theorem odds2 : (fzs (odds 2)).all (smb 45 2) = true := by decide +kernel
theorem odds3 : (fzs (odds 3)).all (smb 45 2) = true := by decide +kernel
theorem p40 : okPow 10 40 = true := by decide +kernel
section
variable {m : Nat} {gl : Nat → D} {b : Nat} {l : List Nat}
theorem head17_run {F : Calls} (hb : b = 2 ∨ b = 3) (h10 : ∀ x ∈ l, x < 10) (hl : l.length ≤ 200) (bag : D) (r : List (Option D)) : ∃ xs, (∀ v ∈ xs, Vv v) ∧ xs.length = 6 ∧
    Fr.execs F gl head17 (some bag :: some (.int b) :: some (.tup (nn l)) :: none :: none :: r) = some (.nx, some bag :: some (.int b) :: some (.tup (nn l)) :: some (.lst true (odds b)) :: some (.lst true xs) :: r) := by
  have v0 : Vi (.int 0) := (sm_fig (x := 0) (by decide)).w (by decide) (by decide)
  have v1 : Vi (.int 1) := (sm_fig (x := 1) (by decide)).w (by decide) (by decide)
  have vb : Vi (.int (b : Nat)) := (sm_fig (x := b) (by omega)).w (by decide) (by decide)
  have vl := vi_nn h10
  have rep : ∀ {d : D} {k : Nat}, Vi d → ∀ v ∈ List.replicate k d, Vi v := fun h v hv => by rw [List.eq_of_mem_replicate hv]; exact h
  have app : ∀ {a c : List D}, (∀ v ∈ a, Vi v) → (∀ v ∈ c, Vi v) → ∀ v ∈ a ++ c, Vi v := fun ha hc v hv => by
    rcases List.mem_append.mp hv with h | h
    · exact ha v h
    · exact hc v h
  have one : ∀ {d : D}, Vi d → ∀ v ∈ [d], Vi v := fun h v hv => by rw [List.mem_singleton.mp hv]; exact h
  have hm0 : f2 .mul (.tup [.int 0]) (.int (200 - (l.length : Int))) = some (.tup (List.replicate (200 - l.length) (.int 0))) := mul_t1n (.int 0) 200 l.length (by decide) (by omega)
  have hm1 : f2 .mul (.tup [.int 1]) (.int (201 - (l.length : Int))) = some (.tup (List.replicate (201 - l.length) (.int 1))) := mul_t1n (.int 1) 201 l.length (by decide) (by omega)
  have hm2 : f2 .mul (.tup [.int 0]) (.int (201 - ((max 1 l.length : Nat) : Int))) = some (.tup (List.replicate (201 - max 1 l.length) (.int 0))) := mul_t1n (.int 0) 201 (max 1 l.length) (by decide) (by omega)
  have hmax : (if (1 : Int) < (l.length : Int) then (l.length : Int) else 1) = ((max 1 l.length : Nat) : Int) := by split <;> omega
  have hcut : cut (nn l) (some 1) none = nn (l.drop 1) := by
    rw [← nn_drop]; exact cut_lo (nn l) 1
  have hzr : ∀ (k n : Nat), fzs (List.replicate k (D.int n)) = List.replicate k (D.int n) := fun k n => by
    have : List.replicate k (D.int n) = nn (List.replicate k n) := by simp [nn]
    rw [this]; simp
  have hzn : ∀ (k n : Nat), nofs (List.replicate k (D.int n)) = true := fun k n => by
    have : List.replicate k (D.int n) = nn (List.replicate k n) := by simp [nn]
    rw [this]; simp
  have hz0 := hzr (200 - l.length) 0
  have hz1 := hzr (201 - l.length) 1
  have hz2 := hzr (201 - max 1 l.length) 0
  have ho0 := hzn (200 - l.length) 0
  have ho1 := hzn (201 - l.length) 1
  have ho2 := hzn (201 - max 1 l.length) 0
  have g0 : Vv (.tup (nn l ++ List.replicate (200 - l.length) (.int 0))) := vtup (app vl (rep v0)) (by simp; omega)
  have g1 : Vv (.tup (nn l ++ List.replicate (201 - l.length) (.int 1))) := vtup (app vl (rep v1)) (by simp; omega)
  have g2 : Vv (.tup ([.int b] ++ nn (l.drop 1) ++ List.replicate (201 - max 1 l.length) (.int 0))) := vtup (app (app (one vb) (vi_nn fun x hx => h10 x (List.mem_of_mem_drop hx))) (rep v0)) (by simp; omega)
  have lr0 : (List.replicate (200 - l.length) (D.int 0)).length = 200 - l.length := by simp
  have lr1 : (List.replicate (201 - l.length) (D.int 1)).length = 201 - l.length := by simp
  have lr2 : (List.replicate (201 - max 1 l.length) (D.int 0)).length = 201 - max 1 l.length := by simp
  generalize List.replicate (200 - l.length) (D.int 0) = z0 at *
  generalize List.replicate (201 - l.length) (D.int 1) = z1 at *
  generalize List.replicate (201 - max 1 l.length) (D.int 0) = z2 at *
  refine ⟨[.tup (nn l), .tup (nn l ++ z0), .tup (nn l ++ z1), .lst true (nn l), .lst true (nn l ++ [.int b]), .tup ([.int b] ++ nn (l.drop 1) ++ z2)], ?_, rfl, ?_⟩
  · intro v hv
    simp only [List.mem_cons, List.not_mem_nil, or_false] at hv
    rcases hv with rfl | rfl | rfl | rfl | rfl | rfl
    · exact vtup vl (by simp; omega)
    · exact g0
    · exact g1
    · exact vlst true vl (by simp; omega)
    · exact vlst true (app vl (one vb)) (by simp; omega)
    · exact g2
  · simp (maxSteps := 1000000) (disch := omega) [head17, odds, when_le, when_lt, when_t, p40, hm0, hm1, hm2, hmax, hcut, hz0, hz1, hz2, ho0, ho1, ho2, lr0, lr1, lr2]
end
end K01
end
section
set_option linter.all false
set_option maxRecDepth 100000
set_option exponentiation.threshold 3000
namespace K01
open PySem Fr
theorem ne_nilt (c : List Nat) : f2 .ne (.tup (nn c)) (.tup []) = some (.bl (!c.isEmpty)) := by
  have h1 : SeqAt.shaped (py (.tup (nn c))) = true := by
    simp only [SeqAt.shaped, py, pys_nn, Bool.and_eq_true, decide_eq_true_eq]
    refine ⟨by simp only [PyData.canLay0]; exact lay_nn c, Nat.le_trans (?_ : _ ≤ 2) (by decide)⟩
    have h : PyData.depthAll (c.map fun x => PyData.int (x : Nat)) = 0 := by
      induction c with
      | nil => rfl
      | cons a r ih => simp [PyData.depthAll, PyData.depth, ih]
    simp [PyData.depth, h]
  have h2 : SeqAt.shaped (py (.tup [])) = true := by simp [SeqAt.shaped, py, pys, PyData.canLay0, PyData.canLayAll0, PyData.depth, PyData.depthAll]
  have h3 : Fr.plain (.tup (nn c)) = true := by simp only [Fr.plain]; exact plain_nn c
  have h4 : Fr.plain (.tup []) = true := rfl
  have h5 : PyData.eqv (py (.tup (nn c))) (py (.tup [])) = c.isEmpty := by
    cases c <;> simp [py, pys, PyData.eqv, PyData.eqvAll]
  show when' (Fr.plain _ && Fr.plain _ && SeqAt.shaped _ && SeqAt.shaped _) (D.bl (!PyData.eqv _ _)) = _
  rw [h1, h2, h3, h4, h5]
  exact when'_true rfl
theorem odds_ok {b : Nat} (hb : b = 2 ∨ b = 3) : (∀ v ∈ fzs (odds b), Vi v) ∧ fzs (odds b) ≠ [] ∧ (fzs (odds b)).length ≤ 1000 := by
  refine ⟨?_, by simp [odds], by simp [odds]⟩
  rcases hb with rfl | rfl
  · exact fun v hv => sm_of (List.all_eq_true.mp odds2 v hv)
  · exact fun v hv => sm_of (List.all_eq_true.mp odds3 v hv)
theorem okR_vv {d : D} (h : Vv d) : okR d := okR_sm h (by decide) (by decide)
theorem r17 (m : Nat) (c : List Nat) (x y : Nat) (hy : y < 2 ^ 31) {b : Nat} (hb : b = 2 ∨ b = 3) {l : List Nat} (h10 : ∀ x ∈ l, x < 10) (hl : l.length ≤ 200) : ∃ xs c' x' y', (∀ v ∈ xs, okR v) ∧ y' < 2 ^ 31 ∧ runP P (m + 3) 17 [bagD c x y, .int b, .tup (nn l)] = some (.lst true xs, some (bagD c' x' y')) := by
  obtain ⟨ho, ho2, ho3⟩ := odds_ok hb
  rw [run_at (d := d17) rfl rfl, bd17, exs_ap]
  have hst : Fr.start d17 [bagD c x y, .int b, .tup (nn l)] = [some (bagD c x y), some (.int b), some (.tup (nn l)), none, none, none, none, none, none, none] := rfl
  rw [hst]
  obtain ⟨xs, hxs, hxl, w1⟩ := head17_run (F := runP P (m + 2)) (gl := P.gl) hb h10 hl (bagD c x y) [none, none, none, none, none]
  rw [w1, Option.bind_some]
  have hne := ne_nilt l
  by_cases h0 : l = []
  · subst h0
    obtain ⟨c', x', y', xs', r', g1, g2, w3⟩ := tail17_run (m := m) (gl := P.gl) ho2 ho3 ho c x y (.lst true (odds b)) xs hy rfl hxs (by omega) (some (.int b)) (some (.tup (nn []))) [none, none, none, none, none]
    refine ⟨xs', c', x', y', fun v hv => okR_vv (g2 v hv), g1, ?_⟩
    simp at hne w3
    simp [hne, w3, d17]
  · have hlen : 0 < l.length := List.length_pos_iff.mpr h0
    have he : l.isEmpty = false := by cases l with
      | nil => exact absurd rfl h0
      | cons a r => rfl
    rw [he] at hne
    obtain ⟨c2, x2, y2, d32, xs2, r2, k1, k2, k3, k4, w2⟩ := blk17_run (m := m) (gl := P.gl) (b := b) h10 hl hlen ho2 ho3 ho c x y (.lst true (odds b)) xs hy rfl hxs (by omega)
    obtain ⟨c', x', y', xs', r', g1, g2, w3⟩ := tail17_run (m := m) (gl := P.gl) ho2 ho3 ho c2 x2 y2 d32 xs2 k1 k2 k3 (by omega) (some (.int b)) (some (.tup (nn l))) r2
    refine ⟨xs', c', x', y', fun v hv => okR_vv (g2 v hv), g1, ?_⟩
    simp at hne
    simp [hne, w2, w3, d17]
end K01
end
section
set_option linter.all false
set_option maxRecDepth 100000
set_option exponentiation.threshold 3000
namespace K01
open PySem Fr
theorem rng_nn (k : Nat) : ((List.range k).map fun j => D.int (0 + (j : Nat))) = nn (List.range k) := by simp [nn]
theorem okd3 : okDiv 3 = true := by decide +kernel
theorem turn_at {f : Nat} (hf : f = 2 ∨ f = 3) {k : Nat} (hk : k < 3) : ∃ b : Nat, (b = 2 ∨ b = 3) ∧ (nn [f, 5 - f, f])[k]? = some (.int b) := by
  rcases hf with rfl | rfl <;> (have : k = 0 ∨ k = 1 ∨ k = 2 := by omega) <;> rcases this with rfl | rfl | rfl
  · exact ⟨2, by simp, rfl⟩
  · exact ⟨3, by simp, rfl⟩
  · exact ⟨2, by simp, rfl⟩
  · exact ⟨3, by simp, rfl⟩
  · exact ⟨2, by simp, rfl⟩
  · exact ⟨3, by simp, rfl⟩
theorem cmp21_5 {m : Nat} {gl : Nat → D} {f : Nat} (hf : f = 2 ∨ f = 3) {s a2 a4 a5 a6 a7 a8 a10 a11 : Option D} : ∀ (ks : List Nat) (c : List Nat) (x y : Nat) (o9 : Option D), y < 2 ^ 31 → (∀ k ∈ ks, k < 6) → ∃ (vs c' : List Nat) (x' y' : Nat) (o9' : Option D), (∀ v ∈ vs, v ≤ 10 ^ 30) ∧ vs.length = ks.length ∧ y' < 2 ^ 31 ∧
    goComp (ev (runP P (m + 2)) gl C21_5c) (ev (runP P (m + 2)) gl C21_5e) [9] (.nm 9) (nn ks) [s, some (bagD c x y), a2, some (.lst true (nn [f, 5 - f, f])), a4, a5, a6, a7, a8, o9, a10, a11] = some (nn vs, [s, some (bagD c' x' y'), a2, some (.lst true (nn [f, 5 - f, f])), a4, a5, a6, a7, a8, o9', a10, a11])
  | [], c, x, y, o9, hy, _ => ⟨[], c, x, y, o9, by simp, rfl, hy, rfl⟩
  | k :: ks, c, x, y, o9, hy, hk => by
    obtain ⟨b, hb, hat⟩ := turn_at hf (k := k / 3) (by have := hk k (by simp); omega)
    obtain ⟨v, c1, x1, y1, h1, h2, h3⟩ := r14 m c x y hy hb
    obtain ⟨vs, c', x', y', o9', g1, g2, g3, g4⟩ := cmp21_5 (m := m) (gl := gl) hf (s := s) (a2 := a2) (a4 := a4) (a5 := a5) (a6 := a6) (a7 := a7) (a8 := a8) (a10 := a10) (a11 := a11) ks c1 x1 y1 (some (.int k)) h2 fun q hq => hk q (by simp [hq])
    have hix := ixN_nat (n := 3) (i := k / 3) (by have := hk k (by simp); omega)
    have ek : (k : Int) / 3 = ((k / 3 : Nat) : Int) := by simp
    refine ⟨v :: vs, c', x', y', o9', ?_, by simp [g2], g3, ?_⟩
    · intro u hu
      rcases List.mem_cons.mp hu with e | e
      · subst e; exact h1
      · exact g1 u e
    · have hl3 : (nn [f, 5 - f, f]).length = 3 := rfl
      have hfz : fzs (nn [f, 5 - f, f]) = nn [f, 5 - f, f] := fzs_nn _
      have hno : nofs (nn [f, 5 - f, f]) = true := nofs_nn _
      generalize nn [f, 5 - f, f] = T at *
      rw [nn_cons, goComp_t (E1 := [s, some (bagD c x y), a2, some (.lst true T), a4, a5, a6, a7, a8, some (.int k), a10, a11]) (E2 := [s, some (bagD c x y), a2, some (.lst true T), a4, a5, a6, a7, a8, some (.int k), a10, a11]) (o := .v (.bl true)) (E3 := [s, some (bagD c1 x1 y1), a2, some (.lst true T), a4, a5, a6, a7, a8, some (.int k), a10, a11]) (E4 := [s, some (bagD c1 x1 y1), a2, some (.lst true T), a4, a5, a6, a7, a8, some (.int k), a10, a11]) (o2 := .v (.int v)) (d := .int v) (by simp [Fr.wipe]) (by simp [C21_5c]) (by simp) (by simp [C21_5e, when', okd3, ek, hl3, hix, hat, h3, hfz, -Int.natCast_ediv]) (by simp), g4]
      rfl
theorem cmp21_3 {m : Nat} {gl : Nat → D} {s a2 a3 a4 a5 a6 a7 a8 a10 a11 : Option D} : ∀ (ks : List Nat) (c : List Nat) (x y : Nat) (o9 : Option D), y < 2 ^ 31 → ∃ (vs c' : List Nat) (x' y' : Nat) (o9' : Option D), (∀ v ∈ vs, v < 2) ∧ vs.length = ks.length ∧ y' < 2 ^ 31 ∧
    goComp (ev (runP P (m + 1)) gl C21_3c) (ev (runP P (m + 1)) gl C21_3e) [9] (.nm 9) (nn ks) [s, some (bagD c x y), a2, a3, a4, a5, a6, a7, a8, o9, a10, a11] = some (nn vs, [s, some (bagD c' x' y'), a2, a3, a4, a5, a6, a7, a8, o9', a10, a11])
  | [], c, x, y, o9, hy => ⟨[], c, x, y, o9, by simp, rfl, hy, rfl⟩
  | k :: ks, c, x, y, o9, hy => by
    obtain ⟨v, c1, x1, y1, h1, h2, h3⟩ := r8i m c x y hy (B := 2) (by decide) (by decide +kernel)
    obtain ⟨vs, c', x', y', o9', g1, g2, g3, g4⟩ := cmp21_3 (m := m) (gl := gl) (s := s) (a2 := a2) (a3 := a3) (a4 := a4) (a5 := a5) (a6 := a6) (a7 := a7) (a8 := a8) (a10 := a10) (a11 := a11) ks c1 x1 y1 (some (.int k)) h2
    refine ⟨v :: vs, c', x', y', o9', ?_, by simp [g2], g3, ?_⟩
    · intro u hu
      rcases List.mem_cons.mp hu with e | e
      · subst e; omega
      · exact g1 u e
    · rw [nn_cons, goComp_t (E1 := [s, some (bagD c x y), a2, a3, a4, a5, a6, a7, a8, some (.int k), a10, a11]) (E2 := [s, some (bagD c x y), a2, a3, a4, a5, a6, a7, a8, some (.int k), a10, a11]) (o := .v (.bl true)) (E3 := [s, some (bagD c1 x1 y1), a2, a3, a4, a5, a6, a7, a8, some (.int k), a10, a11]) (E4 := [s, some (bagD c1 x1 y1), a2, a3, a4, a5, a6, a7, a8, some (.int k), a10, a11]) (o2 := .v (.int v)) (d := .int v) (by simp [Fr.wipe]) (by simp [C21_3c]) (by simp) (by simp [C21_3e, h3]) (by simp), g4]
      rfl
end K01
end
section
set_option linter.all false
set_option maxRecDepth 100000
set_option exponentiation.threshold 3000
namespace K01
open PySem Fr
theorem cmp21_4 {m : Nat} {gl : Nat → D} {f : Nat} (hf : f = 2 ∨ f = 3) {s a2 a4 a5 a6 a7 a8 o9 a10 a11 : Option D} (c : List Nat) (x y : Nat) (hy : y < 2 ^ 31) : ∃ (l0 l1 c' : List Nat) (x' y' : Nat) (o9' : Option D), (∀ v ∈ l0, v < f) ∧ (∀ v ∈ l1, v < 5 - f) ∧ l0.length ≤ 200 ∧ l1.length ≤ 200 ∧ y' < 2 ^ 31 ∧
    goComp (ev (runP P (m + 2)) gl C21_4c) (ev (runP P (m + 2)) gl C21_4e) [9] (.nm 9) (nn [0, 1]) [s, some (bagD c x y), a2, some (.lst true (nn [f, 5 - f, f])), a4, a5, a6, a7, a8, o9, a10, a11] = some ([.tup (nn l0), .tup (nn l1)], [s, some (bagD c' x' y'), a2, some (.lst true (nn [f, 5 - f, f])), a4, a5, a6, a7, a8, o9', a10, a11]) := by
  obtain ⟨l0, c1, x1, y1, h1, h2, h3, h4⟩ := r15 m c x y hy hf
  obtain ⟨l1, c2, x2, y2, g1, g2, g3, g4⟩ := r15 m c1 x1 y1 h3 (b := 5 - f) (by omega)
  have ix0 : ixN 3 0 = some 0 := rfl
  have ix1 : ixN 3 1 = some 1 := rfl
  refine ⟨l0, l1, c2, x2, y2, some (.int 1), h1, g1, h2, g2, g3, ?_⟩
  have e0 : ((0 : Nat) : Int) = 0 := rfl
  have e1 : ((1 : Nat) : Int) = 1 := rfl
  simp only [nn_cons, nn_nil]
  simp only [e0, e1]
  rw [goComp_t (E1 := [s, some (bagD c x y), a2, some (.lst true [.int f, .int (5 - f : Nat), .int f]), a4, a5, a6, a7, a8, some (.int 0), a10, a11]) (E2 := [s, some (bagD c x y), a2, some (.lst true [.int f, .int (5 - f : Nat), .int f]), a4, a5, a6, a7, a8, some (.int 0), a10, a11]) (o := .v (.bl true)) (E3 := [s, some (bagD c1 x1 y1), a2, some (.lst true [.int f, .int (5 - f : Nat), .int f]), a4, a5, a6, a7, a8, some (.int 0), a10, a11]) (E4 := [s, some (bagD c1 x1 y1), a2, some (.lst true [.int f, .int (5 - f : Nat), .int f]), a4, a5, a6, a7, a8, some (.int 0), a10, a11]) (o2 := .v (.tup (nn l0))) (d := .tup (nn l0)) (by simp [Fr.wipe]) (by simp [C21_4c]) (by simp) (by simp [C21_4e, ix0, h4]) (by simp)]
  rw [goComp_t (E1 := [s, some (bagD c1 x1 y1), a2, some (.lst true [.int f, .int (5 - f : Nat), .int f]), a4, a5, a6, a7, a8, some (.int 1), a10, a11]) (E2 := [s, some (bagD c1 x1 y1), a2, some (.lst true [.int f, .int (5 - f : Nat), .int f]), a4, a5, a6, a7, a8, some (.int 1), a10, a11]) (o := .v (.bl true)) (E3 := [s, some (bagD c2 x2 y2), a2, some (.lst true [.int f, .int (5 - f : Nat), .int f]), a4, a5, a6, a7, a8, some (.int 1), a10, a11]) (E4 := [s, some (bagD c2 x2 y2), a2, some (.lst true [.int f, .int (5 - f : Nat), .int f]), a4, a5, a6, a7, a8, some (.int 1), a10, a11]) (o2 := .v (.tup (nn l1))) (d := .tup (nn l1)) (by simp [Fr.wipe]) (by simp [C21_4c]) (by simp) (by simp [C21_4e, ix1, g4]) (by simp)]
  simp [goComp]
theorem cmp21_2 {m : Nat} {gl : Nat → D} {f : Nat} (hf : f = 2 ∨ f = 3) {s a2 a4 a5 a7 a8 o9 a10 a11 : Option D} {l0 l1 : List Nat} (q0 : ∀ v ∈ l0, v < 10) (q1 : ∀ v ∈ l1, v < 10) (p0 : l0.length ≤ 200) (p1 : l1.length ≤ 200) (c : List Nat) (x y : Nat) (hy : y < 2 ^ 31) : ∃ (v0 v1 : List D) (c' : List Nat) (x' y' : Nat) (o9' : Option D), (∀ v ∈ v0, okR v) ∧ (∀ v ∈ v1, okR v) ∧ y' < 2 ^ 31 ∧
    goComp (ev (runP P (m + 3)) gl C21_2c) (ev (runP P (m + 3)) gl C21_2e) [9] (.nm 9) (nn [0, 1]) [s, some (bagD c x y), a2, some (.lst true (nn [f, 5 - f, f])), a4, a5, some (.lst true [.tup (nn l0), .tup (nn l1)]), a7, a8, o9, a10, a11] = some ([.lst true v0, .lst true v1], [s, some (bagD c' x' y'), a2, some (.lst true (nn [f, 5 - f, f])), a4, a5, some (.lst true [.tup (nn l0), .tup (nn l1)]), a7, a8, o9', a10, a11]) := by
  obtain ⟨v0, c1, x1, y1, h1, h3, h4⟩ := r17 m c x y hy hf q0 p0
  obtain ⟨v1, c2, x2, y2, g1, g3, g4⟩ := r17 m c1 x1 y1 h3 (b := 5 - f) (by omega) q1 p1
  have ix0 : ixN 3 0 = some 0 := rfl
  have ix1 : ixN 3 1 = some 1 := rfl
  have ix0' : ixN 2 0 = some 0 := rfl
  have ix1' : ixN 2 1 = some 1 := rfl
  refine ⟨v0, v1, c2, x2, y2, some (.int 1), h1, g1, g3, ?_⟩
  have e0 : ((0 : Nat) : Int) = 0 := rfl
  have e1 : ((1 : Nat) : Int) = 1 := rfl
  simp only [nn_cons, nn_nil]
  simp only [e0, e1]
  generalize hR : some (D.lst true [.tup (nn l0), .tup (nn l1)]) = R
  rw [goComp_t (E1 := [s, some (bagD c x y), a2, some (.lst true [.int f, .int (5 - f : Nat), .int f]), a4, a5, R, a7, a8, some (.int 0), a10, a11]) (E2 := [s, some (bagD c x y), a2, some (.lst true [.int f, .int (5 - f : Nat), .int f]), a4, a5, R, a7, a8, some (.int 0), a10, a11]) (o := .v (.bl true)) (E3 := [s, some (bagD c1 x1 y1), a2, some (.lst true [.int f, .int (5 - f : Nat), .int f]), a4, a5, R, a7, a8, some (.int 0), a10, a11]) (E4 := [s, some (bagD c1 x1 y1), a2, some (.lst true [.int f, .int (5 - f : Nat), .int f]), a4, a5, R, a7, a8, some (.int 0), a10, a11]) (o2 := .v (.lst true v0)) (d := .lst true v0) (by simp [Fr.wipe]) (by simp [C21_2c]) (by simp) ?_ (by simp)]
  rw [goComp_t (E1 := [s, some (bagD c1 x1 y1), a2, some (.lst true [.int f, .int (5 - f : Nat), .int f]), a4, a5, R, a7, a8, some (.int 1), a10, a11]) (E2 := [s, some (bagD c1 x1 y1), a2, some (.lst true [.int f, .int (5 - f : Nat), .int f]), a4, a5, R, a7, a8, some (.int 1), a10, a11]) (o := .v (.bl true)) (E3 := [s, some (bagD c2 x2 y2), a2, some (.lst true [.int f, .int (5 - f : Nat), .int f]), a4, a5, R, a7, a8, some (.int 1), a10, a11]) (E4 := [s, some (bagD c2 x2 y2), a2, some (.lst true [.int f, .int (5 - f : Nat), .int f]), a4, a5, R, a7, a8, some (.int 1), a10, a11]) (o2 := .v (.lst true v1)) (d := .lst true v1) (by simp [Fr.wipe]) (by simp [C21_2c]) (by simp) ?_ (by simp)]
  · simp [goComp]
  · subst hR
    simp [C21_2e, ix1, ix1', g4]
  · subst hR
    simp [C21_2e, ix0, ix0', h4]
end K01
end
section
set_option linter.all false
set_option maxRecDepth 100000
set_option exponentiation.threshold 3000
namespace K01
open PySem Fr
theorem fr21_1 {m : Nat} {gl : Nat → D} {b : Nat} (hb : b = 2 ∨ b = 3) {o5 : Bool} {p0 p1 p2 : Nat} (h0 : p0 ≤ 200) (h1 : p1 ≤ 200) (h2 : p2 ≤ 200) {a0 a1 a2 a3 a4 a6 a7 a8 a9 : Option D} : ∀ (ns : List Nat) (o11 : Option D), (∀ n ∈ ns, n ≤ 10 ^ 30) → ∃ o11',
    goFor (Fr.execs (runP P (m + 3)) gl L21_1b) (.nm 11) (nn ns) [a0, a1, a2, a3, a4, some (.lst o5 (nn [p0, p1, p2])), a6, a7, a8, a9, some (.int b), o11] = some (.nx, [a0, a1, a2, a3, a4, some (.lst o5 (nn [p0, p1, p2])), a6, a7, a8, a9, some (.int b), o11'])
  | [], o11, _ => ⟨o11, rfl⟩
  | n :: ns, o11, h => by
    obtain ⟨o11', ih⟩ := fr21_1 (m := m) (gl := gl) hb (o5 := o5) h0 h1 h2 (a0 := a0) (a1 := a1) (a2 := a2) (a3 := a3) (a4 := a4) (a6 := a6) (a7 := a7) (a8 := a8) (a9 := a9) ns (some (.int n)) fun q hq => h q (by simp [hq])
    have e18 := r18 m (b := b) (n := n) (by omega) (by omega) (h n (by simp)) false h0 h1 h2
    refine ⟨o11', ?_⟩
    simp only [nn_cons, nn_nil] at e18 ih ⊢
    rw [goFor_nx (E1 := [a0, a1, a2, a3, a4, some (.lst o5 [.int p0, .int p1, .int p2]), a6, a7, a8, a9, some (.int b), some (.int n)]) (E2 := [a0, a1, a2, a3, a4, some (.lst o5 [.int p0, .int p1, .int p2]), a6, a7, a8, a9, some (.int b), some (.int n)]) (by simp) (by simp [L21_1b, e18]), ih]
theorem bm02 : bigMul 0 2 = true := by decide +kernel
theorem bm12 : bigMul 1 2 = true := by decide +kernel
theorem okd2 : okDiv 2 = true := by decide +kernel
theorem it21 {m : Nat} {gl : Nat → D} {b k : Nat} (hb : b = 2 ∨ b = 3) (hk : k < 3) {o4 o5 : Bool} {p0 p1 p2 : Nat} (h0 : p0 ≤ 200) (h1 : p1 ≤ 200) (h2 : p2 ≤ 200) {ns l0 l1 W : List Nat} (hns : ∀ n ∈ ns, n ≤ 10 ^ 30)
    (hl : (∀ x ∈ (if k = 1 then l1 else l0), x < b)) (q0 : l0.length ≤ 200) (q1 : l1.length ≤ 200) (hW : k = 2 → ∀ x ∈ W, x < b) (qW : W.length ≤ 200) {x0 x1 : List D} (hx0 : ∀ v ∈ x0, okR v) (hx1 : ∀ v ∈ x1, okR v) {a0 a1 a2 a3 o11 : Option D} {d8 : D} (h8 : fz d8 = .lst false [.lst false x0, .lst false x1]) : ∃ d8' o11', fz d8' = .lst false [.lst false x0, .lst false x1] ∧
    Fr.execs (runP P (m + 4)) gl L21_0b [a0, a1, a2, a3, some (.lst o4 (nn ns)), some (.lst o5 (nn [p0, p1, p2])), some (.lst true [.tup (nn l0), .tup (nn l1)]), some (.tup (nn W)), some d8, some (.int k), some (.int b), o11] = some (.nx, [a0, a1, a2, a3, some (.lst false (nn ns)), some (.lst o5 (nn [p0, p1, p2])), some (.lst true [.tup (nn l0), .tup (nn l1)]), some (.tup (nn W)), some d8', some (.int k), some (.int b), o11']) := by
  obtain ⟨o11', g⟩ := fr21_1 (m := m + 1) (gl := gl) hb (o5 := o5) h0 h1 h2 (a0 := a0) (a1 := a1) (a2 := a2) (a3 := a3) (a4 := some (.lst false (nn ns))) (a6 := some (.lst true [.tup (nn l0), .tup (nn l1)])) (a7 := some (.tup (nn W))) (a8 := some d8) (a9 := some (.int k)) ns o11 hns
  have w : Fr.exec (runP P (m + 4)) gl L21_1 [a0, a1, a2, a3, some (.lst o4 (nn ns)), some (.lst o5 (nn [p0, p1, p2])), some (.lst true [.tup (nn l0), .tup (nn l1)]), some (.tup (nn W)), some d8, some (.int k), some (.int b), o11] = _ := fr_run (by simp [L21_1i]) g
  have ixa : ixN 2 0 = some 0 := rfl
  have ixb : ixN 2 1 = some 1 := rfl
  have hf := fz_idem h8
  simp at hf
  have hff : fz (.lst false [.lst false x0, .lst false x1]) = .lst false [.lst false x0, .lst false x1] := by simp [hf.1, hf.2]
  have e20a : runP P (m + 4) 20 [.int b, .lst false x0] = some (.bl true, none) := r20 m b false x0 hx0
  have e20b : runP P (m + 4) 20 [.int b, .lst false x1] = some (.bl true, none) := r20 m b false x1 hx1
  refine ⟨.lst false [.lst false x0, .lst false x1], o11', hff, ?_⟩
  simp only [nn_cons, nn_nil] at w ⊢
  have hk3 : k = 0 ∨ k = 1 ∨ k = 2 := by omega
  rcases hk3 with rfl | rfl | rfl
  · have e19 : runP P (m + 4) 19 [.int b, .tup (nn l0)] = some (.bl true, none) := r19 (m + 1) (by omega) (by omega) hl q0
    simp at w
    simp [L21_0b, w, when', okd2, bm02, bm12, ixa, ixb, e19, h8, hff, hf, e20a, e20b]
  · have e19 : runP P (m + 4) 19 [.int b, .tup (nn l1)] = some (.bl true, none) := r19 (m + 1) (by omega) (by omega) hl q1
    simp at w
    simp [L21_0b, w, when', okd2, bm02, bm12, ixa, ixb, e19, h8, hff, hf, e20a, e20b]
  · have e19 : runP P (m + 4) 19 [.int b, .tup (nn l0)] = some (.bl true, none) := r19 (m + 1) (by omega) (by omega) hl q0
    have e19W : runP P (m + 4) 19 [.int b, .tup (nn W)] = some (.bl true, none) := r19 (m + 1) (by omega) (by omega) (hW rfl) qW
    simp at w
    simp [L21_0b, w, when', okd2, bm02, bm12, ixa, ixb, e19, e19W, h8, hff, hf, e20a, e20b]
end K01
end
section
set_option linter.all false
set_option maxRecDepth 100000
set_option exponentiation.threshold 3000
namespace K01
open PySem Fr
theorem fr21 {m : Nat} {gl : Nat → D} {f : Nat} (hf : f = 2 ∨ f = 3) {o5 : Bool} {p0 p1 p2 : Nat} (h0 : p0 ≤ 200) (h1 : p1 ≤ 200) (h2 : p2 ≤ 200) {ns l0 l1 W : List Nat} (hns : ∀ n ∈ ns, n ≤ 10 ^ 30)
    (hl0 : ∀ x ∈ l0, x < f) (hl1 : ∀ x ∈ l1, x < 5 - f) (q0 : l0.length ≤ 200) (q1 : l1.length ≤ 200) (hW : ∀ x ∈ W, x < f) (qW : W.length ≤ 200) {x0 x1 : List D} (hx0 : ∀ v ∈ x0, okR v) (hx1 : ∀ v ∈ x1, okR v) {a0 a1 a2 a3 o9 o10 o11 : Option D} {o4 : Bool} {d8 : D} (h8 : fz d8 = .lst false [.lst false x0, .lst false x1]) : ∃ E,
    goFor (Fr.execs (runP P (m + 4)) gl L21_0b) (.tp [9, 10]) (enumD 0 (nn [f, 5 - f, f])) [a0, a1, a2, a3, some (.lst o4 (nn ns)), some (.lst o5 (nn [p0, p1, p2])), some (.lst true [.tup (nn l0), .tup (nn l1)]), some (.tup (nn W)), some d8, o9, o10, o11] = some (.nx, E) := by
  obtain ⟨d81, o1, h81, w1⟩ := it21 (m := m) (gl := gl) (b := f) (k := 0) hf (by decide) (o4 := o4) (o5 := o5) h0 h1 h2 hns hl0 q0 q1 (by omega) qW hx0 hx1 (a0 := a0) (a1 := a1) (a2 := a2) (a3 := a3) (o11 := o11) h8
  obtain ⟨d82, o2, h82, w2⟩ := it21 (m := m) (gl := gl) (b := 5 - f) (k := 1) (by omega) (by decide) (o4 := false) (o5 := o5) h0 h1 h2 hns hl1 q0 q1 (by omega) qW hx0 hx1 (a0 := a0) (a1 := a1) (a2 := a2) (a3 := a3) (o11 := o1) h81
  obtain ⟨d83, o3, h83, w3⟩ := it21 (m := m) (gl := gl) (b := f) (k := 2) hf (by decide) (o4 := false) (o5 := o5) h0 h1 h2 hns hl0 q0 q1 (fun _ => hW) qW hx0 hx1 (a0 := a0) (a1 := a1) (a2 := a2) (a3 := a3) (o11 := o2) h82
  exact ⟨_, (goFor_nx (x := .tup [.int 0, .int f]) rfl w1).trans ((goFor_nx (x := .tup [.int 1, .int (5 - f : Nat)]) rfl w2).trans ((goFor_nx (x := .tup [.int 2, .int f]) rfl w3).trans rfl))⟩
theorem big10 : okPow 2 64 = true ∧ okPow 2 35 = true ∧ okPow 3 62 = true ∧ bigMul (2 ^ 64) (2 ^ 35) = true := by decide +kernel
def b21a : Sts := (.cons (.asg 1 (.call 7 none (.cons (.var 0) .nil))) (.cons (.ife (.nt (.call 10 none (.cons (.tup (.cons (.con (.int 200)) (.cons (.con (.int 1000000000000000000000000000000)) .nil))) (.cons (.tup (.cons (.con (.int 200)) (.cons (.op .pow (.con (.int 10)) (.con (.int 30))) .nil))) .nil)))) (.cons (.ret (.con (.bl false))) .nil) .nil) (.cons (.asg 2 (.op .add (.con (.int 2)) (.call 8 (some 0) (.cons (.var 1) (.cons (.con (.int 2)) .nil))))) (.cons (.asg 3 (.lst (.cons (.var 2) (.cons (.op .sub (.con (.int 5)) (.var 2)) (.cons (.var 2) .nil))))) .nil))))
def b21b : Sts := (.cons (.asg 4 (.op .add (.lst (.cons (.con (.int 0)) (.cons (.op .pow (.con (.int 10)) (.con (.int 30))) (.cons (.op .mul (.op .pow (.con (.int 2)) (.con (.int 64))) (.op .pow (.con (.int 2)) (.con (.int 35)))) (.cons (.op .pow (.con (.int 3)) (.con (.int 62))) .nil))))) C21_5)) (.cons (.asg 5 (.lst (.cons (.call 8 (some 0) (.cons (.var 1) (.cons (.con (.int 201)) .nil))) (.cons (.call 8 (some 0) (.cons (.var 1) (.cons (.con (.int 70)) .nil))) (.cons (.call 8 (some 0) (.cons (.var 1) (.cons (.con (.int 9)) .nil))) .nil))))) .nil))
def b21c : Sts := (.cons (.asg 6 C21_4) (.cons (.asg 7 (.sli false true (.op .mul (.blt .tuple (.cons (.op .add C21_3 (.lst (.cons (.call 8 (some 0) (.cons (.var 1) (.cons (.var 2) .nil))) (.cons (.op .sub (.var 2) (.con (.int 1))) .nil)))) .nil)) (.con (.int 19))) (.con .non) (.con (.int 200)))) (.cons (.asg 8 C21_2) .nil)))
def b21d : Sts := (.cons L21_0 (.cons (.ret (.con (.bl true))) .nil))
theorem bd21 : d21.bd = apS b21a (apS b21b (apS b21c b21d)) := rfl
theorem a21 (m : Nat) (ns : List Int) (h : ns.length ≤ 63) {r : List (Option D)} : ∃ f c x y, (f = 2 ∨ f = 3) ∧ y < 2 ^ 31 ∧ Fr.execs (runP P (m + 4)) P.gl b21a (some (scr ns) :: none :: none :: none :: r) = some (.nx, some (scr ns) :: some (bagD c x y) :: some (.int (f : Nat)) :: some (.lst true (nn [f, 5 - f, f])) :: r) := by
  obtain ⟨c, y, hy, h7⟩ := r7 (m + 3) ns h
  obtain ⟨u, c1, x1, y1, hu, hy1, h8⟩ := r8i (m + 3) c 0 y hy (B := 2) (by decide) (by decide +kernel)
  have sm : Sm 100 3 (.tup [.int 200, .int (10 ^ 30)]) := sm_of (by decide +kernel)
  have h10 := one_like (m + 3) sm (by decide)
  refine ⟨2 + u, c1, x1, y1, by omega, hy1, ?_⟩
  have e5 : (5 : Int) - (2 + (u : Int)) = ((5 - (2 + u) : Nat) : Int) := by omega
  have e2 : ((2 + u : Nat) : Int) = 2 + (u : Int) := by simp
  have hsc : fz (scr ns) = scr ns := by simp [scr, fzs_ints]
  simp at h10
  simp only [nn_cons, nn_nil, e2]
  simp [b21a, h7, h8, hsc, when', p30, h10, e5]
end K01
end
section
set_option linter.all false
set_option maxRecDepth 100000
set_option exponentiation.threshold 3000
namespace K01
open PySem Fr
theorem b21b_run (m : Nat) {gl : Nat → D} {f : Nat} (hf : f = 2 ∨ f = 3) (c : List Nat) (x y : Nat) (hy : y < 2 ^ 31) {s a2 : Option D} : ∃ ns p0 p1 p2 c' x' y', (∀ n ∈ ns, n ≤ 10 ^ 30) ∧ p0 ≤ 200 ∧ p1 ≤ 200 ∧ p2 ≤ 200 ∧ y' < 2 ^ 31 ∧
    Fr.execs (runP P (m + 2)) gl b21b [s, some (bagD c x y), a2, some (.lst true (nn [f, 5 - f, f])), none, none, none, none, none, none, none, none] = some (.nx, [s, some (bagD c' x' y'), a2, some (.lst true (nn [f, 5 - f, f])), some (.lst true (nn ns)), some (.lst true (nn [p0, p1, p2])), none, none, none, none, none, none]) := by
  obtain ⟨vs, c1, x1, y1, o9, h1, h2, hy1, g⟩ := cmp21_5 (m := m) (gl := gl) hf (s := s) (a2 := a2) (a4 := none) (a5 := none) (a6 := none) (a7 := none) (a8 := none) (a10 := none) (a11 := none) (List.range 6) c x y none hy (fun k hk => List.mem_range.mp hk)
  have hi : evIt (runP P (m + 2)) gl C21_5i [s, some (bagD c x y), a2, some (.lst true (nn [f, 5 - f, f])), none, none, none, none, none, none, none, none] = some (nn (List.range 6), [s, some (bagD c x y), a2, some (.lst true (nn [f, 5 - f, f])), none, none, none, none, none, none, none, none]) := it_rng1 (os := [.v (.int (6 : Nat))]) (ds := [.int (6 : Nat)]) (by simp) rfl (by rw [← rng_nn]; exact frng1 (by decide))
  have hv6 : vs.length = 6 := by rw [h2]; simp
  have hc := comp_run (own := [9]) (tg := .nm 9) hi g (by rw [nn_len, hv6]; decide)
  have hc' : ev (runP P (m + 2)) gl C21_5 [s, some (bagD c x y), a2, some (.lst true (nn [f, 5 - f, f])), none, none, none, none, none, none, none, none] = _ := hc
  simp only [restore, List.map_cons, List.map_nil] at hc'
  obtain ⟨q0, c2, x2, y2, k1, hy2, e1⟩ := r8i (m + 1) c1 x1 y1 hy1 (B := 201) (by decide) (by decide +kernel)
  obtain ⟨q1, c3, x3, y3, k2, hy3, e2⟩ := r8i (m + 1) c2 x2 y2 hy2 (B := 70) (by decide) (by decide +kernel)
  obtain ⟨q2, c4, x4, y4, k3, hy4, e3⟩ := r8i (m + 1) c3 x3 y3 hy3 (B := 9) (by decide) (by decide +kernel)
  obtain ⟨w1, w2, w3, w4⟩ := big10
  refine ⟨[0, 10 ^ 30, 2 ^ 99, 3 ^ 62] ++ vs, q0, q1, q2, c4, x4, y4, ?_, by omega, by omega, by omega, hy4, ?_⟩
  · intro n hn
    rcases List.mem_append.mp hn with h | h
    · simp only [List.mem_cons, List.not_mem_nil, or_false] at h
      rcases h with rfl | rfl | rfl | rfl <;> decide +kernel
    · exact h1 n h
  · simp at w4
    simp only [nn_cons, nn_nil] at hc' ⊢
    simp [b21b, when_t, p30, w1, w2, w3, w4, hc', hv6, when_le, e1, e2, e3]
theorem okM19 : okMulT 11 19 = true := by decide +kernel
theorem rep_nn (k : Nat) (l : List Nat) : (List.replicate k (nn l)).flatten = nn (List.replicate k l).flatten := by
  induction k with
  | zero => rfl
  | succ k ih => simp [List.replicate_succ, ih]
theorem b21c_run (m : Nat) {f : Nat} {gl : Nat → D} (hf : f = 2 ∨ f = 3) (c : List Nat) (x y : Nat) (hy : y < 2 ^ 31) {s a4 a5 : Option D} : ∃ l0 l1 W x0 x1 c' x' y', (∀ v ∈ l0, v < f) ∧ (∀ v ∈ l1, v < 5 - f) ∧ l0.length ≤ 200 ∧ l1.length ≤ 200 ∧ (∀ v ∈ W, v < f) ∧ W.length ≤ 200 ∧ (∀ v ∈ x0, okR v) ∧ (∀ v ∈ x1, okR v) ∧
    Fr.execs (runP P (m + 3)) gl b21c [s, some (bagD c x y), some (.int f), some (.lst true (nn [f, 5 - f, f])), a4, a5, none, none, none, none, none, none] = some (.nx, [s, some (bagD c' x' y'), some (.int f), some (.lst true (nn [f, 5 - f, f])), a4, a5, some (.lst true [.tup (nn l0), .tup (nn l1)]), some (.tup (nn W)), some (.lst true [.lst true x0, .lst true x1]), none, none, none]) := by
  obtain ⟨l0, l1, c1, x1, y1, o9, h1, h2, h3, h4, hy1, g⟩ := cmp21_4 (m := m + 1) (gl := gl) hf (s := s) (a2 := some (.int f)) (a4 := a4) (a5 := a5) (a6 := none) (a7 := none) (a8 := none) (o9 := none) (a10 := none) (a11 := none) c x y hy
  have hi : evIt (runP P (m + 3)) gl C21_4i [s, some (bagD c x y), some (.int f), some (.lst true (nn [f, 5 - f, f])), a4, a5, none, none, none, none, none, none] = some (nn [0, 1], [s, some (bagD c x y), some (.int f), some (.lst true (nn [f, 5 - f, f])), a4, a5, none, none, none, none, none, none]) := it_rng1 (os := [.v (.int (2 : Nat))]) (ds := [.int (2 : Nat)]) (by simp) rfl (by rw [show [0, 1] = List.range 2 from rfl, ← rng_nn]; exact frng1 (by decide))
  have hc := comp_run (own := [9]) (tg := .nm 9) hi g (by simp; decide)
  have hc4 : ev (runP P (m + 3)) gl C21_4 [s, some (bagD c x y), some (.int f), some (.lst true (nn [f, 5 - f, f])), a4, a5, none, none, none, none, none, none] = _ := hc
  simp only [restore, List.map_cons, List.map_nil] at hc4
  obtain ⟨vs, c2, x2, y2, o92, k1, k2, hy2, gg⟩ := cmp21_3 (m := m + 2) (gl := gl) (s := s) (a2 := some (.int f)) (a3 := some (.lst true (nn [f, 5 - f, f]))) (a4 := a4) (a5 := a5) (a6 := some (.lst true [.tup (nn l0), .tup (nn l1)])) (a7 := none) (a8 := none) (a10 := none) (a11 := none) (List.range 9) c1 x1 y1 none hy1
  have hi3 : evIt (runP P (m + 3)) gl C21_3i [s, some (bagD c1 x1 y1), some (.int f), some (.lst true (nn [f, 5 - f, f])), a4, a5, some (.lst true [.tup (nn l0), .tup (nn l1)]), none, none, none, none, none] = some (nn (List.range 9), [s, some (bagD c1 x1 y1), some (.int f), some (.lst true (nn [f, 5 - f, f])), a4, a5, some (.lst true [.tup (nn l0), .tup (nn l1)]), none, none, none, none, none]) := it_rng1 (os := [.v (.int (9 : Nat))]) (ds := [.int (9 : Nat)]) (by simp) rfl (by rw [← rng_nn]; exact frng1 (by decide))
  have hv9 : vs.length = 9 := by rw [k2]; simp
  have hcc := comp_run (own := [9]) (tg := .nm 9) hi3 gg (by rw [nn_len, hv9]; decide)
  have hc3 : ev (runP P (m + 3)) gl C21_3 [s, some (bagD c1 x1 y1), some (.int f), some (.lst true (nn [f, 5 - f, f])), a4, a5, some (.lst true [.tup (nn l0), .tup (nn l1)]), none, none, none, none, none] = _ := hcc
  simp only [restore, List.map_cons, List.map_nil] at hc3
  obtain ⟨u, c3, x3, y3, hu, hy3, e8⟩ := r8i (m + 2) c2 x2 y2 hy2 (B := f) (by omega) (i1999 (Nat.le_trans (show f ≤ 3 by omega) (by decide +kernel)))
  have hw : ∀ v ∈ vs ++ [u, f - 1], v < f := by
    intro v hv
    simp only [List.mem_append, List.mem_cons, List.not_mem_nil, or_false] at hv
    rcases hv with h | h | h
    · have := k1 v h; omega
    · omega
    · omega
  have hwl : (nn (vs ++ [u, f - 1])).length = 11 := by simp [hv9]
  have hmul : f2 .mul (.tup (nn (vs ++ [u, f - 1]))) (.int 19) = some (.tup (nn (List.replicate 19 (vs ++ [u, f - 1])).flatten)) := by
    rw [mul_tup, hwl, okM19, when_t]
    congr 2
    exact rep_nn 19 _
  have hcut : cut (nn (List.replicate 19 (vs ++ [u, f - 1])).flatten) none (some 200) = nn ((List.replicate 19 (vs ++ [u, f - 1])).flatten.take 200) := by
    rw [← nn_take]; exact cut_hi _ 200
  have hWm : ∀ v ∈ (List.replicate 19 (vs ++ [u, f - 1])).flatten.take 200, v < f := by
    intro v hv
    have := List.mem_of_mem_take hv
    obtain ⟨q, hq, hvq⟩ := List.mem_flatten.mp this
    rw [List.eq_of_mem_replicate hq] at hvq
    exact hw v hvq
  have hWl : ((List.replicate 19 (vs ++ [u, f - 1])).flatten.take 200).length ≤ 200 := by rw [List.length_take]; omega
  have hf1 : (f : Int) - 1 = ((f - 1 : Nat) : Int) := by omega
  have hnn : nn vs ++ [D.int u, D.int (f - 1 : Nat)] = nn (vs ++ [u, f - 1]) := by simp
  generalize (List.replicate 19 (vs ++ [u, f - 1])).flatten = R at *
  generalize R.take 200 = W at *
  obtain ⟨v0, v1, c4, x4, y4, o94, j1, j2, hy4, gl2⟩ := cmp21_2 (m := m) (gl := gl) hf (s := s) (a2 := some (.int f)) (a4 := a4) (a5 := a5) (a7 := some (.tup (nn W))) (a8 := none) (o9 := none) (a10 := none) (a11 := none) (fun v hv => by have := h1 v hv; omega) (fun v hv => by have := h2 v hv; omega) h3 h4 c3 x3 y3 hy3
  have hi2 : evIt (runP P (m + 3)) gl C21_2i [s, some (bagD c3 x3 y3), some (.int f), some (.lst true (nn [f, 5 - f, f])), a4, a5, some (.lst true [.tup (nn l0), .tup (nn l1)]), some (.tup (nn W)), none, none, none, none] = some (nn [0, 1], [s, some (bagD c3 x3 y3), some (.int f), some (.lst true (nn [f, 5 - f, f])), a4, a5, some (.lst true [.tup (nn l0), .tup (nn l1)]), some (.tup (nn W)), none, none, none, none]) := it_rng1 (os := [.v (.int (2 : Nat))]) (ds := [.int (2 : Nat)]) (by simp) rfl (by rw [show [0, 1] = List.range 2 from rfl, ← rng_nn]; exact frng1 (by decide))
  have hc2 := comp_run (own := [9]) (tg := .nm 9) hi2 gl2 (by simp; decide)
  have hc2' : ev (runP P (m + 3)) gl C21_2 [s, some (bagD c3 x3 y3), some (.int f), some (.lst true (nn [f, 5 - f, f])), a4, a5, some (.lst true [.tup (nn l0), .tup (nn l1)]), some (.tup (nn W)), none, none, none, none] = _ := hc2
  simp only [restore, List.map_cons, List.map_nil] at hc2'
  refine ⟨l0, l1, W, v0, v1, c4, x4, y4, h1, h2, h3, h4, hWm, hWl, j1, j2, ?_⟩
  simp only [nn_cons, nn_nil] at hc4 hc3 hc2' ⊢
  simp [b21c, -nn_app, hc4, hc3, hc2', e8, hf1, hv9, when_le, hnn, hmul, hcut]
end K01
end
section
set_option linter.all false
set_option maxRecDepth 100000
namespace K01
open PySem Fr
theorem run (ns : List Int) (h : ns.length ≤ 63) : ∃ od, runP P 12 21 [scr ns] = some (.bl true, od) := by
  refine ⟨none, ?_⟩
  rw [run_at (d := d21) rfl rfl, bd21]
  have hst : Fr.start d21 [scr ns] = [some (scr ns), none, none, none, none, none, none, none, none, none, none, none] := rfl
  rw [hst, exs_ap]
  obtain ⟨f, c, x, y, hf, hy, e1⟩ := a21 7 ns h (r := [none, none, none, none, none, none, none, none])
  rw [e1, Option.bind_some]
  simp only []
  obtain ⟨nums, p0, p1, p2, c2, x2, y2, hn, h0, h1, h2, hy2, e2⟩ := b21b_run 9 (gl := P.gl) hf c x y hy (s := some (scr ns)) (a2 := some (.int f))
  rw [exs_ap, e2, Option.bind_some]
  simp only []
  obtain ⟨l0, l1, W, x0, x1, c3, x3, y3, k1, k2, k3, k4, k5, k6, k7, k8, e3⟩ := b21c_run 8 (gl := P.gl) hf c2 x2 y2 hy2 (s := some (scr ns)) (a4 := some (.lst true (nn nums))) (a5 := some (.lst true (nn [p0, p1, p2])))
  rw [exs_ap, e3, Option.bind_some]
  simp only []
  have hx : ∀ {xs : List D}, (∀ v ∈ xs, okR v) → ∀ v ∈ fzs xs, okR v := fun hq => fzs_P (fun _ => okR_fz) hq
  obtain ⟨E, g⟩ := fr21 (m := 7) (gl := P.gl) hf (o5 := true) h0 h1 h2 hn k1 k2 k3 k4 k5 k6 (hx k7) (hx k8) (a0 := some (scr ns)) (a1 := some (bagD c3 x3 y3)) (a2 := some (.int f)) (a3 := some (.lst false (nn [f, 5 - f, f]))) (o9 := none) (o10 := none) (o11 := none) (o4 := true) (d8 := .lst true [.lst true x0, .lst true x1]) rfl
  have w : Fr.exec (runP P 11) P.gl L21_0 [some (scr ns), some (bagD c3 x3 y3), some (.int f), some (.lst true (nn [f, 5 - f, f])), some (.lst true (nn nums)), some (.lst true (nn [p0, p1, p2])), some (.lst true [.tup (nn l0), .tup (nn l1)]), some (.tup (nn W)), some (.lst true [.lst true x0, .lst true x1]), none, none, none] = _ := fr_run (l := enumD 0 (nn [f, 5 - f, f])) (by simp [L21_0i, enumD]) g
  rw [b21d, exs_cons, w]
  simp [d21]
end K01
end
set_option Elab.async false
set_option linter.all false
set_option maxRecDepth 100000
namespace K01
open PySem PySem.W PyProof.Rows Fr L2
section
variable {K : PySem.W.Frag} {h : Heap} {mg : Str → Option Value}
theorem top_mk (KX : K.In h) (G : h.Ns mainGlobals mg)
    (f0 : DefAt K mg P.ds gls d0)
    (f1 : DefAt K mg P.ds gls d1)
    (f2 : DefAt K mg P.ds gls d2)
    (f3 : DefAt K mg P.ds gls d3)
    (f4 : DefAt K mg P.ds gls d4)
    (f5 : DefAt K mg P.ds gls d5)
    (f6 : DefAt K mg P.ds gls d6)
    (f7 : DefAt K mg P.ds gls d7)
    (f8 : DefAt K mg P.ds gls d8)
    (f9 : DefAt K mg P.ds gls d9)
    (f10 : DefAt K mg P.ds gls d10)
    (f11 : DefAt K mg P.ds gls d11)
    (f12 : DefAt K mg P.ds gls d12)
    (f13 : DefAt K mg P.ds gls d13)
    (f14 : DefAt K mg P.ds gls d14)
    (f15 : DefAt K mg P.ds gls d15)
    (f16 : DefAt K mg P.ds gls d16)
    (f17 : DefAt K mg P.ds gls d17)
    (f18 : DefAt K mg P.ds gls d18)
    (f19 : DefAt K mg P.ds gls d19)
    (f20 : DefAt K mg P.ds gls d20)
    (f21 : DefAt K mg P.ds gls d21)
    (b0 : PySem.W.nsIn K mainGlobals "len" = some none)
    (b1 : PySem.W.nsIn K mainGlobals "abs" = some none)
    (b2 : PySem.W.nsIn K mainGlobals "int" = some none)
    (b3 : PySem.W.nsIn K mainGlobals "min" = some none)
    (b4 : PySem.W.nsIn K mainGlobals "max" = some none)
    (b5 : PySem.W.nsIn K mainGlobals "sum" = some none)
    (b6 : PySem.W.nsIn K mainGlobals "repr" = some none)
    (b7 : PySem.W.nsIn K mainGlobals "tuple" = some none)
    (b8 : PySem.W.nsIn K mainGlobals "list" = some none)
    (b9 : PySem.W.nsIn K mainGlobals "reversed" = some none)
    (b10 : PySem.W.nsIn K mainGlobals "isinstance" = some none)
    (b11 : PySem.W.nsIn K mainGlobals "range" = some none)
    (b12 : PySem.W.nsIn K mainGlobals "enumerate" = some none)
    (b13 : PySem.W.nsIn K mainGlobals "bool" = some none)
    (b14 : PySem.W.nsIn K mainGlobals "str" = some none)
    (b15 : PySem.W.nsIn K mainGlobals "dict" = some none)
    (g0 : ∃ t, mg "MAX_LONG" = some (.int 200 t))
    (g1 : ∃ t, mg "MAX_NUMBER" = some (.int 1000000000000000000000000000000 t))
    : Top K mg P gls where
  ds := fun i d e => by
    match i, e with
    | 0, e => cases e; exact f0
    | 1, e => cases e; exact f1
    | 2, e => cases e; exact f2
    | 3, e => cases e; exact f3
    | 4, e => cases e; exact f4
    | 5, e => cases e; exact f5
    | 6, e => cases e; exact f6
    | 7, e => cases e; exact f7
    | 8, e => cases e; exact f8
    | 9, e => cases e; exact f9
    | 10, e => cases e; exact f10
    | 11, e => cases e; exact f11
    | 12, e => cases e; exact f12
    | 13, e => cases e; exact f13
    | 14, e => cases e; exact f14
    | 15, e => cases e; exact f15
    | 16, e => cases e; exact f16
    | 17, e => cases e; exact f17
    | 18, e => cases e; exact f18
    | 19, e => cases e; exact f19
    | 20, e => cases e; exact f20
    | 21, e => cases e; exact f21
    | i + 22, e => simp [P] at e
  nob := fun x hx => by
    simp only [bnames, List.mem_cons, List.not_mem_nil, or_false] at hx
    rcases hx with rfl | rfl | rfl | rfl | rfl | rfl | rfl | rfl | rfl | rfl | rfl | rfl | rfl | rfl | rfl | rfl
    · exact PySem.W.mg_none_of KX G b0
    · exact PySem.W.mg_none_of KX G b1
    · exact PySem.W.mg_none_of KX G b2
    · exact PySem.W.mg_none_of KX G b3
    · exact PySem.W.mg_none_of KX G b4
    · exact PySem.W.mg_none_of KX G b5
    · exact PySem.W.mg_none_of KX G b6
    · exact PySem.W.mg_none_of KX G b7
    · exact PySem.W.mg_none_of KX G b8
    · exact PySem.W.mg_none_of KX G b9
    · exact PySem.W.mg_none_of KX G b10
    · exact PySem.W.mg_none_of KX G b11
    · exact PySem.W.mg_none_of KX G b12
    · exact PySem.W.mg_none_of KX G b13
    · exact PySem.W.mg_none_of KX G b14
    · exact PySem.W.mg_none_of KX G b15
  gls := fun q hq => by
    simp only [gls, List.mem_cons, List.not_mem_nil, or_false] at hq
    rcases hq with rfl | rfl
    · obtain ⟨t, e⟩ := g0; exact ⟨.int 200, _, e, ⟨_, rfl⟩, fun _ _ _ => ⟨rfl, rfl⟩⟩
    · obtain ⟨t, e⟩ := g1; exact ⟨.int 1000000000000000000000000000000, _, e, ⟨_, rfl⟩, fun _ _ _ => ⟨rfl, rfl⟩⟩
end
end K01
open PySem PySem.W PyProof.Rows
set_option maxHeartbeats 0 in
theorem PySem.Challenge.cw_figuredrows_k01_figures_judged_holds : PySem.Challenge.rw_figuredrows_k01_figures_judged.Holds := by
  w_on; o_law; k_head; (case hw => w_witness2)
  k_fill
  refine Fr.walk_G (l := PySem.Challenge.rw_figuredrows_k01_figures_judged) (m := 63) (k := 12) (i := 21) (P := K01.P) (gls := K01.gls) (df := K01.d21) rfl (by decide) rfl ⟨rfl, by decide, by decide⟩ (fun w h Y => PySem.W.kIn_of Y) (fun w => ?nl) ?iq rfl rfl rfl rfl ?F K01.run
  case nl => kernel_rfl
  case iq => kernel_rfl
  case F =>
    intro w mg fa h Y KX G hmg
    refine K01.top_mk KX G ?frf0 ?frf1 ?frf2 ?frf3 ?frf4 ?frf5 ?frf6 ?frf7 ?frf8 ?frf9 ?frf10 ?frf11 ?frf12 ?frf13 ?frf14 ?frf15 ?frf16 ?frf17 ?frf18 ?frf19 ?frf20 ?frf21 ?frb0 ?frb1 ?frb2 ?frb3 ?frb4 ?frb5 ?frb6 ?frb7 ?frb8 ?frb9 ?frb10 ?frb11 ?frb12 ?frb13 ?frb14 ?frb15 ?frg0 ?frg1
    case frf0 => (refine' Fr.def_mk KX G (st := K01.topS _) ?fra0 ?frl0 ?frc0 ?frk0 K01.c0; (case fra0 => k_is); (case frl0 => k_is); (case frc0 => k_is); (case frk0 => k_is))
    case frf1 => (refine' Fr.def_mk KX G (st := K01.topS _) ?fra1 ?frl1 ?frc1 ?frk1 K01.c1; (case fra1 => k_is); (case frl1 => k_is); (case frc1 => k_is); (case frk1 => k_is))
    case frf2 => (refine' Fr.def_mk KX G (st := K01.topS _) ?fra2 ?frl2 ?frc2 ?frk2 K01.c2; (case fra2 => k_is); (case frl2 => k_is); (case frc2 => k_is); (case frk2 => k_is))
    case frf3 => (refine' Fr.def_mk KX G (st := K01.topS _) ?fra3 ?frl3 ?frc3 ?frk3 K01.c3; (case fra3 => k_is); (case frl3 => k_is); (case frc3 => k_is); (case frk3 => k_is))
    case frf4 => (refine' Fr.def_mk KX G (st := K01.topS _) ?fra4 ?frl4 ?frc4 ?frk4 K01.c4; (case fra4 => k_is); (case frl4 => k_is); (case frc4 => k_is); (case frk4 => k_is))
    case frf5 => (refine' Fr.def_mk KX G (st := K01.topS _) ?fra5 ?frl5 ?frc5 ?frk5 K01.c5; (case fra5 => k_is); (case frl5 => k_is); (case frc5 => k_is); (case frk5 => k_is))
    case frf6 => (refine' Fr.def_mk KX G (st := K01.topS _) ?fra6 ?frl6 ?frc6 ?frk6 K01.c6; (case fra6 => k_is); (case frl6 => k_is); (case frc6 => k_is); (case frk6 => k_is))
    case frf7 => (refine' Fr.def_mk KX G (st := K01.topS _) ?fra7 ?frl7 ?frc7 ?frk7 K01.c7; (case fra7 => k_is); (case frl7 => k_is); (case frc7 => k_is); (case frk7 => k_is))
    case frf8 => (refine' Fr.def_mk KX G (st := K01.topS _) ?fra8 ?frl8 ?frc8 ?frk8 K01.c8; (case fra8 => k_is); (case frl8 => k_is); (case frc8 => k_is); (case frk8 => k_is))
    case frf9 => (refine' Fr.def_mk KX G (st := K01.topS _) ?fra9 ?frl9 ?frc9 ?frk9 K01.c9; (case fra9 => k_is); (case frl9 => k_is); (case frc9 => k_is); (case frk9 => k_is))
    case frf10 => (refine' Fr.def_mk KX G (st := K01.topS _) ?fra10 ?frl10 ?frc10 ?frk10 K01.c10; (case fra10 => k_is); (case frl10 => k_is); (case frc10 => k_is); (case frk10 => k_is))
    case frf11 => (refine' Fr.def_mk KX G (st := K01.topS _) ?fra11 ?frl11 ?frc11 ?frk11 K01.c11; (case fra11 => k_is); (case frl11 => k_is); (case frc11 => k_is); (case frk11 => k_is))
    case frf12 => (refine' Fr.def_mk KX G (st := K01.topS _) ?fra12 ?frl12 ?frc12 ?frk12 K01.c12; (case fra12 => k_is); (case frl12 => k_is); (case frc12 => k_is); (case frk12 => k_is))
    case frf13 => (refine' Fr.def_mk KX G (st := K01.topS _) ?fra13 ?frl13 ?frc13 ?frk13 K01.c13; (case fra13 => k_is); (case frl13 => k_is); (case frc13 => k_is); (case frk13 => k_is))
    case frf14 => (refine' Fr.def_mk KX G (st := K01.topS _) ?fra14 ?frl14 ?frc14 ?frk14 K01.c14; (case fra14 => k_is); (case frl14 => k_is); (case frc14 => k_is); (case frk14 => k_is))
    case frf15 => (refine' Fr.def_mk KX G (st := K01.topS _) ?fra15 ?frl15 ?frc15 ?frk15 K01.c15; (case fra15 => k_is); (case frl15 => k_is); (case frc15 => k_is); (case frk15 => k_is))
    case frf16 => (refine' Fr.def_mk KX G (st := K01.topS _) ?fra16 ?frl16 ?frc16 ?frk16 K01.c16; (case fra16 => k_is); (case frl16 => k_is); (case frc16 => k_is); (case frk16 => k_is))
    case frf17 => (refine' Fr.def_mk KX G (st := K01.topS _) ?fra17 ?frl17 ?frc17 ?frk17 K01.c17; (case fra17 => k_is); (case frl17 => k_is); (case frc17 => k_is); (case frk17 => k_is))
    case frf18 => (refine' Fr.def_mk KX G (st := K01.topS _) ?fra18 ?frl18 ?frc18 ?frk18 K01.c18; (case fra18 => k_is); (case frl18 => k_is); (case frc18 => k_is); (case frk18 => k_is))
    case frf19 => (refine' Fr.def_mk KX G (st := K01.topS _) ?fra19 ?frl19 ?frc19 ?frk19 K01.c19; (case fra19 => k_is); (case frl19 => k_is); (case frc19 => k_is); (case frk19 => k_is))
    case frf20 => (refine' Fr.def_mk KX G (st := K01.topS _) ?fra20 ?frl20 ?frc20 ?frk20 K01.c20; (case fra20 => k_is); (case frl20 => k_is); (case frc20 => k_is); (case frk20 => k_is))
    case frf21 => (refine' Fr.def_mk KX G (st := K01.topS _) ?fra21 ?frl21 ?frc21 ?frk21 K01.c21; (case fra21 => k_is); (case frl21 => k_is); (case frc21 => k_is); (case frk21 => k_is))
    case frb0 => k_is
    case frb1 => k_is
    case frb2 => k_is
    case frb3 => k_is
    case frb4 => k_is
    case frb5 => k_is
    case frb6 => k_is
    case frb7 => k_is
    case frb8 => k_is
    case frb9 => k_is
    case frb10 => k_is
    case frb11 => k_is
    case frb12 => k_is
    case frb13 => k_is
    case frb14 => k_is
    case frb15 => k_is
    case frg0 => exact ⟨_, PySem.W.mg_of KX G (by k_is)⟩
    case frg1 => exact ⟨_, PySem.W.mg_of KX G (by k_is)⟩
