import PyProof.Rows.All
import Wide.All
import OpenK.AllK
import Wide.FinOn
import HandS.ForMost
import PyProof.ReprRoads
import KE.SortData
import HandS.TupAny
import HandS.TupMul
import HandS.Deep
import HandS.IsInst
import HandS.More
import HandS.Defaults
import HandS.Ends
import HandS.HeadEnd
import HandS.HeadHook1
import HandS.HeadHook2
import PyProof.ReprLen
import PySem.Challenge.RW_fewturnsover_k10_turns_put_together
import HandS.Head0
import HandS.Head1
import HandS.Head2
import KE.KStateDown
import Lean
set_option Elab.async false
set_option linter.all false
set_option maxRecDepth 100000
set_option maxHeartbeats 0
namespace Mi
open PySem

inductive W where
  | non | bl (b : Bool) | int (i : Int) | str (s : Str) | tup (ws : List W) | ref (n : Nat)
  | scr (ns : List Int)

inductive Cell where
  | lst (ws : List W)

abbrev Sto := List Cell
abbrev Sl := List (Option W)

inductive R (α : Type) where
  | stk
  | ok (a : α) (st : Sto)

namespace R
def bind {α β : Type} : R α → (α → Sto → R β) → R β
  | .stk, _ => .stk
  | .ok a st, f => f a st
@[simp] theorem bind_stk {α β : Type} (f : α → Sto → R β) : R.bind .stk f = .stk := rfl
@[simp] theorem bind_ok {α β : Type} (a : α) (st : Sto) (f : α → Sto → R β) : R.bind (.ok a st) f = f a st := rfl
end R

mutual
def W.beq : W → W → Bool
  | .non, .non => true
  | .bl a, .bl b => a == b
  | .int a, .int b => decide (a = b)
  | .str a, .str b => decide (a = b)
  | .tup a, .tup b => W.beqs a b
  | .ref a, .ref b => decide (a = b)
  | .scr a, .scr b => decide (a = b)
  | _, _ => false
def W.beqs : List W → List W → Bool
  | [], [] => true
  | a :: as, b :: bs => W.beq a b && W.beqs as bs
  | _, _ => false
end
mutual
theorem W.beq_eq : ∀ {a b : W}, W.beq a b = true → a = b
  | .non, b, h => by cases b <;> simp [W.beq] at h <;> rfl
  | .bl x, b, h => by cases b <;> simp [W.beq] at h <;> subst h <;> rfl
  | .int x, b, h => by cases b <;> simp [W.beq] at h <;> subst h <;> rfl
  | .str x, b, h => by cases b <;> simp [W.beq] at h <;> subst h <;> rfl
  | .tup x, b, h => by
    cases b <;> simp [W.beq] at h
    rw [W.beqs_eq h]
  | .ref x, b, h => by cases b <;> simp [W.beq] at h <;> subst h <;> rfl
  | .scr x, b, h => by cases b <;> simp [W.beq] at h <;> subst h <;> rfl
theorem W.beqs_eq : ∀ {a b : List W}, W.beqs a b = true → a = b
  | [], [], _ => rfl
  | [], _ :: _, h => by simp [W.beqs] at h
  | _ :: _, [], h => by simp [W.beqs] at h
  | x :: xs, y :: ys, h => by
    simp [W.beqs] at h
    rw [W.beq_eq h.1, W.beqs_eq h.2]
end
mutual
theorem W.beq_refl : ∀ (a : W), W.beq a a = true
  | .non => by simp [W.beq]
  | .bl x => by simp [W.beq]
  | .int x => by simp [W.beq]
  | .str x => by simp [W.beq]
  | .tup x => by simp [W.beq, W.beqs_refl x]
  | .ref x => by simp [W.beq]
  | .scr x => by simp [W.beq]
theorem W.beqs_refl : ∀ (a : List W), W.beqs a a = true
  | [] => by simp [W.beqs]
  | x :: xs => by simp [W.beqs, W.beq_refl x, W.beqs_refl xs]
end

mutual
def W.und (n : Nat) : W → Bool
  | .tup ws => W.unds n ws
  | .ref k => decide (k < n)
  | _ => true
def W.unds (n : Nat) : List W → Bool
  | [] => true
  | a :: as => W.und n a && W.unds n as
end

def Cell.beq : Cell → Cell → Bool
  | .lst a, .lst b => W.beqs a b
theorem Cell.beq_eq {a b : Cell} (h : a.beq b = true) : a = b := by
  cases a <;> cases b <;> simp [Cell.beq] at h
  · rw [W.beqs_eq h]
theorem Cell.beq_refl (a : Cell) : a.beq a = true := by
  cases a <;> simp [Cell.beq, W.beqs_refl]
def Cell.und (n : Nat) : Cell → Bool
  | .lst ws => W.unds n ws

def okOld (n : Nat) : Sto → Sto → Bool
  | [], _ => true
  | c :: cs, c' :: cs' => (c.beq c' || c'.und n) && okOld n cs cs'
  | _ :: _, [] => false
def gc (st st' : Sto) (w : W) : R W :=
  if okOld st.length st st' = true then
    if w.und st.length = true then .ok w (st'.take st.length)
    else match w with
      | .ref k => match st'[k]? with
        | some c => if c.und st.length = true then .ok (.ref st.length) (st'.take st.length ++ [c]) else .ok w st'
        | none => .ok w st'
      | _ => .ok w st'
  else .ok w st'
def R.gc (st : Sto) : R W → R W
  | .stk => .stk
  | .ok w st' => Mi.gc st st' w

mutual
def W.dat (h : Nat → Option PyData) : W → Option PyData
  | .non => some .none
  | .bl b => some (.bool b)
  | .int i => some (.int i)
  | .str s => some (.str s)
  | .tup ws => (W.dats h ws).map PyData.tuple
  | .ref n => h n
  | .scr _ => none
def W.dats (h : Nat → Option PyData) : List W → Option (List PyData)
  | [] => some []
  | a :: as => match W.dat h a, W.dats h as with
    | some d, some ds => some (d :: ds)
    | _, _ => none
end
def look (st : Sto) : Nat → Nat → Option PyData
  | 0, _ => none
  | d + 1, k => match st[k]? with
    | some (.lst ws) => (W.dats (look st d) ws).map PyData.list
    | _ => none
/-- to eight lists within one another -/
def dat (st : Sto) (w : W) : Option PyData := W.dat (look st 8) w

def MAXI : Int := 2 ^ 64
def binW (op : Operator) (x y : W) (st : Sto) : R W :=
  match op, x, y with
  | .Add, .int i, .int j => .ok (.int (i + j)) st
  | .Add, .tup a, .tup b => if a.length + b.length ≤ sizeLine then .ok (.tup (a ++ b)) st else .stk
  | .Add, .ref i, .ref j => match st[i]?, st[j]? with
    | some (.lst a), some (.lst b) => if a.length + b.length ≤ sizeLine then .ok (.ref st.length) (st ++ [.lst (a ++ b)]) else .stk
    | _, _ => .stk
  | .Sub, .int i, .int j => .ok (.int (i - j)) st
  | .Mult, .int i, .int j => if (-(2 ^ 64) < i ∧ i < 2 ^ 64) ∨ (-(2 ^ 64) < j ∧ j < 2 ^ 64) then .ok (.int (i * j)) st else .stk
  | .FloorDiv, .int i, .int j => if j ≠ 0 ∧ j.natAbs < 1073741824 then .ok (.int (i.fdiv j)) st else .stk
  | .Mod, .int i, .int j => if j ≠ 0 then .ok (.int (i.fmod j)) st else .stk
  | .Pow, .int i, .int j => if 0 ≤ j ∧ j ≤ 1000000 ∧ i.natAbs < 2 ^ 64 then .ok (.int (i ^ j.toNat)) st else .stk
  | _, _, _ => .stk
/-- two texts -/
def strsW : W → W → Option (Str × Str)
  | .str a, .str b => some (a, b)
  | _, _ => none
def eqW (st : Sto) (x y : W) : Option Bool := match strsW x y with
  | some (a, b) => some (decide (a = b))
  | none => match dat st x, dat st y with
    | some d, some e => if SeqAt.shaped d = true ∧ SeqAt.shaped e = true then some (PyData.eqv d e) else none
    | _, _ => none
def cmpW (op : CmpOp) (x y : W) (st : Sto) : R W :=
  match op with
  | .Eq => match eqW st x y with
    | some b => .ok (.bl b) st
    | none => .stk
  | .NotEq => match eqW st x y with
    | some b => .ok (.bl (!b)) st
    | none => .stk
  | .Lt => match x, y with
    | .int i, .int j => .ok (.bl (decide (i < j))) st
    | _, _ => .stk
  | .LtE => match x, y with
    | .int i, .int j => .ok (.bl (decide (i ≤ j))) st
    | _, _ => .stk
  | .Gt => match x, y with
    | .int i, .int j => .ok (.bl (decide (j < i))) st
    | _, _ => .stk
  | .GtE => match x, y with
    | .int i, .int j => .ok (.bl (decide (j ≤ i))) st
    | _, _ => .stk
  | _ => .stk
def itemW (st : Sto) (x : W) (i : Int) : Option W :=
  match x with
  | .tup ws => L2.atI ws i
  | .scr ns => (L2.atI ns i).map W.int
  | .ref r => match st[r]? with
    | some (.lst ws) => L2.atI ws i
    | _ => none
  | _ => none
def ixW (x i : W) (st : Sto) : R W :=
  match i with
  | .int i => match itemW st x i with
    | some w => .ok w st
    | none => .stk
  | _ => .stk
/-- the part from lo to hi -/
def cutW {α : Type} (xs : List α) (lo hi : Option Int) : List α := (xs.drop (HT.sIx xs.length 0 lo)).take (HT.sIx xs.length xs.length hi - HT.sIx xs.length 0 lo)
def slW (x : W) (lo hi : Option Int) (st : Sto) : R W :=
  match x with
  | .tup ws => .ok (.tup (cutW ws lo hi)) st
  | .ref r => match st[r]? with
    | some (.lst ws) => .ok (.ref st.length) (st ++ [.lst (cutW ws lo hi)])
    | _ => .stk
  | _ => .stk

inductive Ty where
  | list | tuple | int | bool | str
  deriving DecidableEq
def isTy (t : Ty) (x : W) (st : Sto) : R W :=
  match x with
  | .non => .ok (.bl false) st
  | .bl _ => .ok (.bl (decide (t = .bool) || decide (t = .int))) st
  | .int _ => .ok (.bl (decide (t = .int))) st
  | .str _ => .ok (.bl (decide (t = .str))) st
  | .tup _ => .ok (.bl (decide (t = .tuple))) st
  | .scr _ => .stk
  | .ref r => match st[r]? with
    | some (.lst _) => .ok (.bl (decide (t = .list))) st
    | _ => .stk

/-- the items of a list -/
def lstW (st : Sto) (x : W) : Option (List W) :=
  match x with
  | .ref r => match st[r]? with
    | some (.lst ws) => some ws
    | _ => none
  | _ => none
/-- the items of a list or a tuple -/
def seqW (st : Sto) (x : W) : Option (List W) :=
  match x with
  | .tup ws => some ws
  | .ref r => match st[r]? with
    | some (.lst ws) => some ws
    | _ => none
  | _ => none
def bools : List W → Option (List Bool)
  | [] => some []
  | .bl b :: r => (bools r).map (b :: ·)
  | _ :: _ => none
inductive Bi where
  | abs | int | len | max2 | min2 | repr | list | tuple | all | any
  deriving DecidableEq
def biW (b : Bi) (ws : List W) (st : Sto) : R W :=
  match b, ws with
  | .abs, [.int i] => .ok (.int (if i < 0 then -i else i)) st
  | .int, [.int i] => .ok (.int i) st
  | .int, [.bl b] => .ok (.int (if b then 1 else 0)) st
  | .len, [.tup ws] => .ok (.int ws.length) st
  | .len, [.scr ns] => .ok (.int ns.length) st
  | .len, [.ref r] => match st[r]? with
    | some (.lst ws) => .ok (.int ws.length) st
    | _ => .stk
  | .max2, [.int i, .int j] => .ok (.int (if j > i then j else i)) st
  | .min2, [.int i, .int j] => .ok (.int (if j < i then j else i)) st
  | .repr, [w] => match dat st w with
    | some d => if d.showable = true ∧ d.hasDict = false ∧ d.depth ≤ 64 ∧ d.shown.length ≤ sizeLine then .ok (.str d.shown) st else .stk
    | none => .stk
  | .list, [w] => match seqW st w with
    | some ws => .ok (.ref st.length) (st ++ [.lst ws])
    | none => .stk
  | .tuple, [w] => match seqW st w with
    | some ws => .ok (.tup ws) st
    | none => .stk
  | .all, [w] => match lstW st w with
    | some ws => match bools ws with
      | some bs => .ok (.bl (bs.all id)) st
      | none => .stk
    | none => .stk
  | .any, [w] => match lstW st w with
    | some ws => match bools ws with
      | some bs => .ok (.bl (bs.any id)) st
      | none => .stk
    | none => .stk
  | _, _ => .stk
inductive Bm where
  | append
  deriving DecidableEq
def bmW (m : Bm) (o : W) (ws : List W) (st : Sto) : R W :=
  match m, o, ws with
  | .append, .ref r, [w] => match st[r]? with
    | some (.lst xs) => if xs.length < sizeLine then .ok .non (st.set r (.lst (xs ++ [w]))) else .stk
    | _ => .stk
  | _, _, _ => .stk
def setW (o i w : W) (st : Sto) : R Unit :=
  match o, i with
  | .ref r, .int k => match st[r]? with
    | some (.lst xs) => match L2.ixN xs.length k with
      | some j => .ok () (st.set r (.lst (xs.set j w)))
      | none => .stk
    | _ => .stk
  | _, _ => .stk

/-- where a parameter's value comes from: the i-th positional argument, the i-th keyword's, a default -/
inductive Pl where
  | p (i : Nat)
  | k (i : Nat)
  | d (w : W)
def Pl.get (ws zs : List W) : Pl → Option W
  | .p i => ws[i]?
  | .k i => zs[i]?
  | .d w => some w
def Pl.all (ws zs : List W) : List Pl → Option (List W)
  | [] => some []
  | a :: as => match a.get ws zs, Pl.all ws zs as with
    | some w, some xs => some (w :: xs)
    | _, _ => none
inductive Tg where
  | nm (i : Nat)
  | tup (ts : List Tg)
mutual
inductive E where
  | v (i : Nat)
  | non | bl (b : Bool) | int (i : Int) | str (s : Str)
  | tup (es : List E) | lst (es : List E)
  | bin (op : Operator) (a b : E) | neg (a : E) | cmp (op : CmpOp) (a b : E)
  | ands (es : List E) | ors (es : List E) | not (a : E) | ife (c a b : E)
  | ix (a i : E) | sl (a : E) (lo hi : Option E)
  | call (f : Nat) (es : List E)
  | callK (f : Nat) (es ks : List E) (pl : List Pl)
  | bi (b : Bi) (es : List E)
  | isi (t : Ty) (a : E)
  | bm (m : Bm) (o : E) (es : List E)
  | comp (own : List Nat) (el : E) (t : Tg) (s : Sr) (ifs : List E) (gs : List Gen)
  | gc (e : E)
inductive Sr where
  | e (e : E) | rng1 (a : E) | rng2 (a b : E)
inductive Gen where
  | mk (t : Tg) (s : Sr) (ifs : List E)
end
inductive S where
  | ex (e : E) | asg (t : Tg) (e : E) | asgC (i : Nat) (own : List Nat) (el : E) (t : Tg) (s : Sr) (ifs : List E) (gs : List Gen) | setI (o i e : E) | aug (i : Nat) (op : Operator) (e : E) | ret (e : E) | retN
  | ite (c : E) (a b : List S) | fr (t : Tg) (s : Sr) (body : List S) | whl (c : E) (body : List S) | pass | brk | cont

mutual
def bindT : Tg → W → Sl → Option Sl
  | .nm i, w, r => some (r.set i (some w))
  | .tup ts, .tup ws, r => bindTs ts ws r
  | .tup _, _, _ => none
def bindTs : List Tg → List W → Sl → Option Sl
  | [], [], r => some r
  | t :: ts, w :: ws, r => match bindT t w r with
    | some r' => bindTs ts ws r'
    | none => none
  | _, _, _ => none
end
/-- a target takes a value -/
def withT {α : Type} (t : Tg) (w : W) (r : Sl) (k : Sl → α) (d : α) : α := match bindT t w r with
  | some r' => k r'
  | none => d
/-- the slots of a comprehension's own names are empty at first -/
def unset (r : Sl) : List Nat → Sl
  | [] => r
  | i :: is => (unset r is).set i none
/-- what a walk asks of the store at each turn -/
inductive Chk where
  | no
  | cell (n : Nat) (c : Cell)
def Chk.ok (st : Sto) : Chk → Bool
  | .no => true
  | .cell n c => match st[n]? with
    | some c' => c'.beq c
    | none => false
def srcW (x : W) (st : Sto) : R (Chk × List W) :=
  match x with
  | .tup ws => .ok (.no, ws) st
  | .ref r => match st[r]? with
    | some (.lst ws) => .ok (.cell r (.lst ws), ws) st
    | _ => .stk
  | _ => .stk
def rangeW (lo hi : Int) (st : Sto) : R (Chk × List W) :=
  if -(2 ^ 62) ≤ lo ∧ lo < 2 ^ 62 ∧ -(2 ^ 62) ≤ hi ∧ hi < 2 ^ 62 then .ok (.no, (List.range (hi - lo).toNat).map fun (k : Nat) => W.int (lo + (k : Int))) st else .stk
def loopC (chk : Chk) (f : W → Sto → List W → R (List W)) : List W → Sto → List W → R (List W)
  | [], st, acc => if chk.ok st = true then .ok acc st else .stk
  | w :: ws, st, acc => if chk.ok st = true then (f w st acc).bind fun acc st => loopC chk f ws st acc else .stk
def boolR : R W → (Bool → Sto → R α) → R α
  | .ok (.bl b) st, k => k b st
  | _, _ => .stk
section
variable (cl : Nat → List W → Sto → R W)
mutual
def evE : E → Sl → Sto → R W
  | .v i, r, st => match r[i]? with
    | some (some w) => .ok w st
    | _ => .stk
  | .non, _, st => .ok .non st
  | .bl b, _, st => .ok (.bl b) st
  | .int i, _, st => .ok (.int i) st
  | .str s, _, st => .ok (.str s) st
  | .tup es, r, st => (evEs es r st).bind fun ws st => if ws.length ≤ sizeLine then .ok (.tup ws) st else .stk
  | .lst es, r, st => (evEs es r st).bind fun ws st => if ws.length ≤ sizeLine then .ok (.ref st.length) (st ++ [.lst ws]) else .stk
  | .bin op a b, r, st => (evE a r st).bind fun x st => (evE b r st).bind fun y st => binW op x y st
  | .neg a, r, st => (evE a r st).bind fun x st => match x with
    | .int i => .ok (.int (-i)) st
    | _ => .stk
  | .cmp op a b, r, st => (evE a r st).bind fun x st => (evE b r st).bind fun y st => cmpW op x y st
  | .ands es, r, st => evAnds es r st
  | .ors es, r, st => evOrs es r st
  | .not a, r, st => boolR (evE a r st) fun b st => .ok (.bl (!b)) st
  | .ife c a b, r, st => boolR (evE c r st) fun t st => if t = true then evE a r st else evE b r st
  | .ix a i, r, st => (evE a r st).bind fun x st => (evE i r st).bind fun y st => ixW x y st
  | .sl a lo hi, r, st => (evE a r st).bind fun x st => (evO lo r st).bind fun l st => (evO hi r st).bind fun h st => slW x l h st
  | .call f es, r, st => (evEs es r st).bind fun ws st => cl f ws st
  | .callK f es ks pl, r, st => (evEs es r st).bind fun ws st => (evEs ks r st).bind fun zs st => match Pl.all ws zs pl with
    | some xs => cl f xs st
    | none => .stk
  | .bi b es, r, st => (evEs es r st).bind fun ws st => biW b ws st
  | .isi t a, r, st => (evE a r st).bind fun x st => isTy t x st
  | .bm m o es, r, st => (evE o r st).bind fun x st => (evEs es r st).bind fun ws st => bmW m x ws st
  | .comp own el t s ifs gs, r, st => (evSr s r st).bind fun cw st => (loopC cw.1 (fun w st acc => withT t w (unset r own) (fun r' => (evIfs ifs r' st).bind fun b st => if b = true then evGs gs (fun r st acc => (evE el r st).bind fun w st => if acc.length < sizeLine then .ok (acc ++ [w]) st else .stk) r' st acc else .ok acc st) .stk) cw.2 st []).bind fun acc st => .ok (.ref st.length) (st ++ [.lst acc])
  | .gc e, r, st => (evE e r st).gc st
def evEs : List E → Sl → Sto → R (List W)
  | [], _, st => .ok [] st
  | e :: es, r, st => (evE e r st).bind fun w st => (evEs es r st).bind fun ws st => .ok (w :: ws) st
def evO : Option E → Sl → Sto → R (Option Int)
  | none, _, st => .ok none st
  | some e, r, st => (evE e r st).bind fun w st => match w with
    | .int i => .ok (some i) st
    | _ => .stk
def evAnds : List E → Sl → Sto → R W
  | [], _, _ => .stk
  | [e], r, st => evE e r st
  | e :: f :: es, r, st => boolR (evE e r st) fun b st => if b = true then evAnds (f :: es) r st else .ok (.bl false) st
def evOrs : List E → Sl → Sto → R W
  | [], _, _ => .stk
  | [e], r, st => evE e r st
  | e :: f :: es, r, st => boolR (evE e r st) fun b st => if b = true then .ok (.bl true) st else evOrs (f :: es) r st
def evSr : Sr → Sl → Sto → R (Chk × List W)
  | .e e, r, st => (evE e r st).bind fun x st => srcW x st
  | .rng1 a, r, st => (evE a r st).bind fun x st => match x with
    | .int j => rangeW 0 j st
    | _ => .stk
  | .rng2 a b, r, st => (evE a r st).bind fun x st => (evE b r st).bind fun y st => match x, y with
    | .int i, .int j => rangeW i j st
    | _, _ => .stk
def evIfs : List E → Sl → Sto → R Bool
  | [], _, st => .ok true st
  | e :: es, r, st => boolR (evE e r st) fun b st => if b = true then evIfs es r st else .ok false st
def evGs : List Gen → (Sl → Sto → List W → R (List W)) → Sl → Sto → List W → R (List W)
  | [], k, r, st, acc => k r st acc
  | .mk t s ifs :: gs, k, r, st, acc => (evSr s r st).bind fun cw st => loopC cw.1 (fun w st acc => withT t w r (fun r' => (evIfs ifs r' st).bind fun b st => if b = true then evGs gs k r' st acc else .ok acc st) .stk) cw.2 st acc
end

inductive RS where
  | stk
  | nx (r : Sl) (st : Sto)
  | ret (w : W) (st : Sto)
  | brk (r : Sl) (st : Sto)
  | cont (r : Sl) (st : Sto)
def R.toS {α : Type} : R α → (α → Sto → RS) → RS
  | .stk, _ => .stk
  | .ok a st, k => k a st
def boolS : R W → (Bool → Sto → RS) → RS
  | .ok (.bl b) st, k => k b st
  | _, _ => .stk
def RS.seq : RS → (Sl → Sto → RS) → RS
  | .nx r st, k => k r st
  | x, _ => x
/-- behind a turn of a loop: on, out or away -/
def RS.turn : RS → (Sl → Sto → RS) → RS
  | .nx r st, k => k r st
  | .cont r st, k => k r st
  | .brk r st, _ => .nx r st
  | x, _ => x
def loopF (chk : Chk) (f : W → Sl → Sto → RS) : List W → Sl → Sto → RS
  | [], r, st => if chk.ok st = true then .nx r st else .stk
  | w :: ws, r, st => if chk.ok st = true then (f w r st).turn fun r st => loopF chk f ws r st else .stk
def loopW (c : Sl → Sto → R W) (f : Sl → Sto → RS) : Nat → Sl → Sto → RS
  | 0, _, _ => .stk
  | n + 1, r, st => boolS (c r st) fun b st => if b = true then (f r st).turn fun r st => loopW c f n r st else .nx r st
variable (fu : Nat)
mutual
def evS : S → Sl → Sto → RS
  | .ex e, r, st => (evE cl e r st).toS fun _ st => .nx r st
  | .asg t e, r, st => (evE cl e r st).toS fun w st => withT t w r (fun r' => .nx r' st) .stk
  | .asgC i own el t s ifs gs, r, st => (evE cl (.comp own el t s ifs gs) r st).toS fun w st => .nx (r.set i (some w)) st
  | .setI o i e, r, st => (evE cl e r st).toS fun w st => (evE cl o r st).toS fun x st => (evE cl i r st).toS fun y st => (setW x y w st).toS fun _ st => .nx r st
  | .aug i op e, r, st => match r[i]? with
    | some (some x) => (evE cl e r st).toS fun y st => match op, x, y with
      | .Add, .int a, .int b => .nx (r.set i (some (.int (a + b)))) st
      | .Sub, .int a, .int b => .nx (r.set i (some (.int (a - b)))) st
      | _, _, _ => .stk
    | _ => .stk
  | .ret e, r, st => (evE cl e r st).toS fun w st => .ret w st
  | .retN, _, st => .ret .non st
  | .ite c a b, r, st => boolS (evE cl c r st) fun t st => if t = true then evSs a r st else evSs b r st
  | .fr t s body, r, st => (evSr cl s r st).toS fun cw st => loopF cw.1 (fun w r st => withT t w r (fun r' => evSs body r' st) .stk) cw.2 r st
  | .whl c body, r, st => loopW (fun r st => evE cl c r st) (fun r st => evSs body r st) fu r st
  | .pass, r, st => .nx r st
  | .brk, r, st => .brk r st
  | .cont, r, st => .cont r st
def evSs : List S → Sl → Sto → RS
  | [], r, st => .nx r st
  | s :: ss, r, st => (evS s r st).seq fun r st => evSs ss r st
end
end

structure Def where
  nm : Str
  ps : List Str
  N : List Str
  body : List S
abbrev Tab := List Def
def RS.out : RS → R W
  | .nx _ st => .ok .non st
  | .ret w st => .ok w st
  | _ => .stk
def runD (cl : Nat → List W → Sto → R W) (fu : Nat) (d : Def) (ws : List W) (st : Sto) : R W :=
  if ws.length = d.ps.length then (evSs cl fu d.body (ws.map some ++ List.replicate (d.N.length - ws.length) none) st).out.gc st else .stk
def callN (T : Tab) (fu : Nat) : Nat → Nat → List W → Sto → R W
  | 0, _, _, _ => .stk
  | n + 1, f, ws, st => match T[f]? with
    | some d => runD (callN T fu n) fu d ws st
    | none => .stk
end Mi

namespace Mi
open PySem PySem.Spec PyProof.Rows L2

mutual
inductive RV (K : PySem.W.Frag) (H : Hp) (L : List Addr) : V → W → Prop
  | non : RV K H L .non .non
  | bl (b : Bool) : RV K H L (.bl b) (.bl b)
  | int (i : Int) : RV K H L (.int i) (.int i)
  | str (s : Str) : RV K H L (.str s) (.str s)
  | tup {a : Addr} {vs : List V} {ws : List W} : SqT K H a vs → RVs K H L vs ws → RV K H L (.ref a) (.tup ws)
  | ref {a : Addr} {n : Nat} : L[n]? = some a → RV K H L (.ref a) (.ref n)
  | scr {a : Addr} {ns : List Int} : ((∃ o, H a = some (.frz o (.lst (ns.map V.int)))) ∨ ∃ (o : Obj) (its : Array Value) (n : Nat), K.lookup a = some o ∧ o.cls = .type "list" ∧ o.dict = none ∧ o.data = .seq its n ∧ its.size ≤ sizeLine ∧ Vals (ns.map V.int) its.toList) → RV K H L (.ref a) (.scr ns)
inductive RVs (K : PySem.W.Frag) (H : Hp) (L : List Addr) : List V → List W → Prop
  | nil : RVs K H L [] []
  | cons {v : V} {w : W} {vs : List V} {ws : List W} : RV K H L v w → RVs K H L vs ws → RVs K H L (v :: vs) (w :: ws)
end

def CellOk (K : PySem.W.Frag) (H : Hp) (L : List Addr) (a : Addr) : Cell → Prop
  | .lst ws => ∃ vs, H a = some (.lst vs) ∧ RVs K H L vs ws

/-- the store st stands in H, cell by cell at the addresses L -/
structure SR (K : PySem.W.Frag) (H : Hp) (L : List Addr) (st : Sto) : Prop where
  len : L.length = st.length
  nd : L.Nodup
  ok : ∀ (n : Nat) (a : Addr) (c : Cell), L[n]? = some a → st[n]? = some c → CellOk K H L a c

/-- tuples and locked things stay, cells keep their numbers -/
structure Ahead (H : Hp) (L : List Addr) (H' : Hp) (L' : List Addr) : Prop where
  more : ∃ M, L' = L ++ M
  tups : ∀ a xs, H a = some (.tup xs) → H' a = some (.tup xs)
  frzs : ∀ a o u, H a = some (.frz o u) → H' a = some (.frz o u)
/-- from H, L to H', L': only what stands at L was changed -/
structure Step (H : Hp) (L : List Addr) (H' : Hp) (L' : List Addr) : Prop extends Ahead H L H' L' where
  fresh : ∀ a ∈ L', a ∉ L → H a = none
  keep : ∀ a o, H a = some o → a ∉ L → H' a = some o
theorem Step.mk' {H H' : Hp} {L L' : List Addr} (more : ∃ M, L' = L ++ M) (fresh : ∀ a ∈ L', a ∉ L → H a = none) (tups : ∀ a xs, H a = some (.tup xs) → H' a = some (.tup xs))
    (frzs : ∀ a o u, H a = some (.frz o u) → H' a = some (.frz o u)) (keep : ∀ a o, H a = some o → a ∉ L → H' a = some o) : Step H L H' L' := ⟨⟨more, tups, frzs⟩, fresh, keep⟩
theorem Ahead.cell (H : Hp) (L : List Addr) (a : Addr) : Ahead H L H (L ++ [a]) := ⟨⟨[a], rfl⟩, fun _ _ h => h, fun _ _ _ h => h⟩

section
variable {K : PySem.W.Frag} {H H' H1 H2 : Hp} {L L' La Lb : List Addr} {st st' : Sto} {σ σ' : L2.St} {r r' : Sl}
theorem Step.refl (H : Hp) (L : List Addr) : Step H L H L := .mk' ⟨[], by simp⟩ (fun a h n => absurd h n) (fun _ _ h => h) (fun _ _ _ h => h) (fun _ _ h _ => h)
theorem Step.trans (a : Step H L H1 La) (b : Step H1 La H2 Lb) : Step H L H2 Lb := by
  refine .mk' ?_ (fun x hx hn => ?_) (fun x xs h => b.tups x xs (a.tups x xs h)) (fun x o u h => b.frzs x o u (a.frzs x o u h)) fun x o h hn => b.keep x o (a.keep x o h hn) fun h1 => ?_
  · obtain ⟨M, e⟩ := a.more
    obtain ⟨M', e'⟩ := b.more
    exact ⟨M ++ M', by rw [e', e, List.append_assoc]⟩
  · by_cases h1 : x ∈ La
    · exact a.fresh x h1 hn
    · have h2 := b.fresh x hx h1
      cases q : H x with
      | none => rfl
      | some o => rw [a.keep x o q hn] at h2; cases h2
  · have := a.fresh x h1 hn
    rw [h] at this; cases this
theorem Ahead.get (s : Ahead H L H' L') {n : Nat} {a : Addr} (h : L[n]? = some a) : L'[n]? = some a := by
  obtain ⟨M, e⟩ := s.more
  rw [e, List.getElem?_append_left (List.getElem?_eq_some_iff.mp h).1]
  exact h
theorem SqT.mono (s : Ahead H L H' L') {a : Addr} {xs : List V} (h : SqT K H a xs) : SqT K H' a xs := by
  rcases h with (h | ⟨o, h⟩) | h
  · exact .inl (.inl (s.tups a xs h))
  · exact .inl (.inr ⟨o, s.frzs a o _ h⟩)
  · exact .inr h
mutual
theorem RV.mono (s : Ahead H L H' L') : ∀ {w : W} {v : V}, RV K H L v w → RV K H' L' v w
  | .non, _, h => by cases h; exact .non
  | .bl _, _, h => by cases h; exact .bl _
  | .int _, _, h => by cases h; exact .int _
  | .str _, _, h => by cases h; exact .str _
  | .tup ws, _, h => by
    cases h with
    | tup h1 h2 => exact .tup (SqT.mono s h1) (RVs.mono s h2)
  | .ref _, _, h => by
    cases h with
    | ref h1 => exact .ref (s.get h1)
  | .scr _, _, h => by
    cases h with
    | scr h1 =>
      refine .scr ?_
      rcases h1 with ⟨o, h1⟩ | h1
      · exact .inl ⟨o, s.frzs _ o _ h1⟩
      · exact .inr h1
theorem RVs.mono (s : Ahead H L H' L') : ∀ {ws : List W} {vs : List V}, RVs K H L vs ws → RVs K H' L' vs ws
  | [], _, h => by cases h; exact .nil
  | w :: ws, _, h => by
    cases h with
    | cons h1 h2 => exact .cons (RV.mono s h1) (RVs.mono s h2)
end
theorem RVs.length : ∀ {vs : List V} {ws : List W}, RVs K H L vs ws → vs.length = ws.length
  | _, _, .nil => rfl
  | _, _, .cons _ h => by simp [RVs.length h]
theorem RVs.get : ∀ {vs : List V} {ws : List W} {i : Nat} {w : W}, RVs K H L vs ws → ws[i]? = some w → ∃ v, vs[i]? = some v ∧ RV K H L v w
  | _, _, i, w, .nil, e => by simp at e
  | _, _, 0, w, .cons h _, e => by
    simp at e; subst e
    exact ⟨_, rfl, h⟩
  | _, _, i + 1, w, .cons _ t, e => by
    obtain ⟨v, h1, h2⟩ := RVs.get (i := i) t (by simpa using e)
    exact ⟨v, by simpa using h1, h2⟩
theorem RVs.append : ∀ {vs vs' : List V} {ws ws' : List W}, RVs K H L vs ws → RVs K H L vs' ws' → RVs K H L (vs ++ vs') (ws ++ ws')
  | _, _, _, _, .nil, h => h
  | _, _, _, _, .cons a t, h => .cons a (RVs.append t h)
theorem RVs.set {v : V} {w : W} (h : RV K H L v w) : ∀ {vs : List V} {ws : List W} (i : Nat), RVs K H L vs ws → RVs K H L (vs.set i v) (ws.set i w)
  | _, _, _, .nil => .nil
  | _, _, 0, .cons _ t => .cons h t
  | _, _, i + 1, .cons a t => .cons a (RVs.set h i t)
theorem RVs.take : ∀ {vs : List V} {ws : List W} (n : Nat), RVs K H L vs ws → RVs K H L (vs.take n) (ws.take n)
  | _, _, 0, _ => .nil
  | _, _, _ + 1, .nil => .nil
  | _, _, n + 1, .cons a t => .cons a (RVs.take n t)
theorem RVs.drop : ∀ {vs : List V} {ws : List W} (n : Nat), RVs K H L vs ws → RVs K H L (vs.drop n) (ws.drop n)
  | _, _, 0, h => h
  | _, _, _ + 1, .nil => .nil
  | _, _, n + 1, .cons _ t => RVs.drop n t

structure SlOk (K : PySem.W.Frag) (H : Hp) (L : List Addr) (σ : L2.St) (r : Sl) : Prop where
  len : r.length = σ.length
  ok : ∀ (i : Nat) (w : W), r[i]? = some (some w) → ∃ v, σ[i]? = some (some v) ∧ RV K H L v w
theorem SlOk.mono (h : SlOk K H L σ r) (s : Ahead H L H' L') : SlOk K H' L' σ r := ⟨h.len, fun i w e => by
  obtain ⟨v, h1, h2⟩ := h.ok i w e
  exact ⟨v, h1, h2.mono s⟩⟩
theorem SlOk.set (h : SlOk K H L σ r) {v : V} {w : W} (hv : RV K H L v w) (i : Nat) : SlOk K H L (σ.set i (some v)) (r.set i (some w)) := ⟨by simp [h.len], fun j w' e => by
  by_cases hj : i = j
  · subst hj
    by_cases hi : i < r.length
    · rw [List.getElem?_set_self hi] at e
      cases e
      exact ⟨v, List.getElem?_set_self (by rw [← h.len]; exact hi), hv⟩
    · rw [List.getElem?_eq_none (by simpa using hi)] at e
      cases e
  · rw [List.getElem?_set_ne hj] at e
    rw [List.getElem?_set_ne hj]
    exact h.ok j w' e⟩
theorem SlOk.unset (h : SlOk K H L σ r) : ∀ is : List Nat, SlOk K H L (wipe σ is) (unset r is)
  | [] => h
  | i :: is => by
    have ih := SlOk.unset h is
    refine ⟨by simp [Mi.unset, wipe, ih.len], fun j w e => ?_⟩
    unfold Mi.unset at e
    unfold wipe
    by_cases hj : i = j
    · subst hj
      by_cases hi : i < (Mi.unset r is).length
      · rw [List.getElem?_set_self hi] at e; cases e
      · rw [List.getElem?_eq_none (by simpa using hi)] at e; cases e
    · rw [List.getElem?_set_ne hj] at e ⊢
      exact ih.ok j w e
mutual
/-- a target's names: what the slots are behind -/
theorem bindT_len : ∀ {t : Tg} {w : W} {r r' : Sl}, bindT t w r = some r' → r'.length = r.length
  | .nm i, w, r, r', h => by simp [bindT] at h; subst h; simp
  | .tup ts, .tup ws, r, r', h => by rw [bindT] at h; exact bindTs_len h
  | .tup ts, .non, r, r', h => by simp [bindT] at h
  | .tup ts, .bl _, r, r', h => by simp [bindT] at h
  | .tup ts, .int _, r, r', h => by simp [bindT] at h
  | .tup ts, .str _, r, r', h => by simp [bindT] at h
  | .tup ts, .ref _, r, r', h => by simp [bindT] at h
  | .tup ts, .scr _, r, r', h => by simp [bindT] at h
theorem bindTs_len : ∀ {ts : List Tg} {ws : List W} {r r' : Sl}, bindTs ts ws r = some r' → r'.length = r.length
  | [], [], r, r', h => by simp [bindTs] at h; subst h; rfl
  | [], _ :: _, r, r', h => by simp [bindTs] at h
  | _ :: _, [], r, r', h => by simp [bindTs] at h
  | t :: ts, w :: ws, r, r', h => by
    rw [bindTs] at h
    split at h
    · rename_i r1 e
      rw [bindTs_len h, bindT_len e]
    · cases h
end

theorem SR.nil (K : PySem.W.Frag) (H : Hp) : SR K H [] [] := ⟨rfl, List.nodup_nil, fun n a c h => by simp at h⟩
theorem CellOk.some {a : Addr} {c : Cell} (h : CellOk K H L a c) : ∃ o, H a = Option.some o := by
  cases c with
  | lst ws => obtain ⟨vs, e, _⟩ := h; exact ⟨_, e⟩
theorem CellOk.mono {a : Addr} {c : Cell} (s : Ahead H L H' L') (e : H' a = H a) (h : CellOk K H L a c) : CellOk K H' L' a c := by
  cases c with
  | lst ws => obtain ⟨vs, e1, h1⟩ := h; exact ⟨vs, e.trans e1, h1.mono s⟩
theorem SR.there (h : SR K H L st) {a : Addr} (ha : a ∈ L) : ∃ o, H a = Option.some o := by
  obtain ⟨n, hn⟩ := List.getElem?_of_mem ha
  have hl := (List.getElem?_eq_some_iff.mp hn).1
  exact (h.ok n a _ hn (List.getElem?_eq_getElem (by rw [← h.len]; exact hl))).some
theorem SR.new (h : SR K H L st) {p : Addr} (hp : H p = none) : p ∉ L := fun hm => by
  obtain ⟨o, e⟩ := h.there hm
  rw [hp] at e; cases e
/-- an address that holds no cell takes a new object -/
theorem Step.laid {p : Addr} {o : HO} (hp : H p = none) : Step H L (upd H p o) L :=
  .mk' ⟨[], by simp⟩ (fun a h n => absurd h n) (fun a xs e => by rw [upd_ne (ne_of_none e hp)]; exact e) (fun a ob u e => by rw [upd_ne (ne_of_none e hp)]; exact e) fun a ob e _ => by rw [upd_ne (ne_of_none e hp)]; exact e
/-- a step that leaves the cells -/
theorem SR.mono (h : SR K H L st) (s : Ahead H L H' L) (hk : ∀ a ∈ L, H' a = H a) : SR K H' L st :=
  ⟨h.len, h.nd, fun n a c h1 h2 => (h.ok n a c h1 h2).mono s (hk a (List.mem_of_getElem? h1))⟩
theorem SR.laid (h : SR K H L st) {p : Addr} {o : HO} (hp : H p = none) : SR K (upd H p o) L st :=
  h.mono (Step.laid hp).toAhead fun a ha => upd_ne fun e => h.new hp (e ▸ ha)
/-- a new cell -/
theorem Step.alloc {p : Addr} {o : HO} (hp : H p = none) (L : List Addr) : Step H L (upd H p o) (L ++ [p]) := by
  refine .mk' ⟨[p], rfl⟩ (fun a h n => ?_) (Step.laid (L := L) hp).tups (Step.laid (L := L) hp).frzs (Step.laid (L := L) hp).keep
  rcases List.mem_append.mp h with h | h
  · exact absurd h n
  · rw [List.mem_singleton.mp h]; exact hp
/-- one cell more is told -/
theorem SR.more (h : SR K H L st) {p : Addr} (hn : p ∉ L) {c : Cell} (hc : CellOk K H (L ++ [p]) p c) : SR K H (L ++ [p]) (st ++ [c]) := by
  refine ⟨by simp [h.len], ?_, fun n a c' h1 h2 => ?_⟩
  · rw [List.nodup_append]
    refine ⟨h.nd, by simp, fun a ha b hb e => ?_⟩
    rw [List.mem_singleton.mp hb] at e
    exact hn (e ▸ ha)
  · by_cases hlt : n < L.length
    · rw [List.getElem?_append_left hlt] at h1
      rw [List.getElem?_append_left (by rw [← h.len]; exact hlt)] at h2
      exact (h.ok n a c' h1 h2).mono (Ahead.cell H L p) rfl
    · have hl : n < (L ++ [p]).length := (List.getElem?_eq_some_iff.mp h1).1
      have e : n = L.length := by rw [List.length_append, List.length_singleton] at hl; omega
      subst e
      rw [List.getElem?_append_right (Nat.le_refl _)] at h1
      rw [h.len, List.getElem?_append_right (Nat.le_refl _)] at h2
      simp at h1 h2
      subst h1 h2
      exact hc
theorem SR.push (h : SR K H L st) {p : Addr} {o : HO} (hp : H p = none) {c : Cell} (hc : CellOk K (upd H p o) (L ++ [p]) p c) : SR K (upd H p o) (L ++ [p]) (st ++ [c]) :=
  (h.laid hp).more (h.new hp) hc
/-- a list that is no cell takes another content -/
theorem Ahead.side {a : Addr} {xs ys : List V} (ho : H a = some (.lst xs)) : Ahead H L (upd H a (.lst ys)) L := by
  refine ⟨⟨[], by simp⟩, fun b zs e => ?_, fun b ob u e => ?_⟩
  · rw [upd_ne]
    · exact e
    · rintro rfl
      rw [ho] at e; cases e
  · rw [upd_ne]
    · exact e
    · rintro rfl
      rw [ho] at e; cases e
theorem SR.side (h : SR K H L st) {a : Addr} {xs ys : List V} (hn : a ∉ L) (ho : H a = some (.lst xs)) : SR K (upd H a (.lst ys)) L st :=
  h.mono (Ahead.side ho) fun b hb => upd_ne fun e => hn (e ▸ hb)
/-- a step, and a list that stood not at its start takes another content -/
theorem Step.side (s : Step H L H' L') {a : Addr} {xs ys : List V} (h0 : H a = none) (ho : H' a = some (.lst xs)) : Step H L (upd H' a (.lst ys)) L' :=
  .mk' s.more s.fresh (fun b zs e => (Ahead.side (L := L') ho).tups b zs (s.tups b zs e)) (fun b ob u e => (Ahead.side (L := L') ho).frzs b ob u (s.frzs b ob u e)) fun b ob e hb => by
    rw [upd_ne (ne_of_none e h0)]
    exact s.keep b ob e hb
theorem SR.at (h : SR K H L st) {n : Nat} {a : Addr} {c : Cell} (h1 : L[n]? = some a) (h2 : st[n]? = some c) : CellOk K H L a c := h.ok n a c h1 h2
theorem Step.write {a : Addr} {o o' : HO} (ha : a ∈ L) (ho : H a = some o) (h1 : ∀ xs, o ≠ .tup xs) (h2 : ∀ ob u, o ≠ .frz ob u) : Step H L (upd H a o') L := by
  refine .mk' ⟨[], by simp⟩ (fun b h n => absurd h n) (fun b xs e => ?_) (fun b ob u e => ?_) fun b ob e hb => ?_
  · rw [upd_ne]
    · exact e
    · rintro rfl
      rw [ho] at e
      exact h1 xs (Option.some.inj e)
  · rw [upd_ne]
    · exact e
    · rintro rfl
      rw [ho] at e
      exact h2 ob u (Option.some.inj e)
  · rw [upd_ne]
    · exact e
    · rintro rfl
      exact hb ha
/-- a cell takes another content -/
theorem SR.write (h : SR K H L st) {n : Nat} {a : Addr} {c : Cell} {o' : HO} (h1 : L[n]? = some a) (s : Step H L (upd H a o') L) (hc : CellOk K (upd H a o') L a c) : SR K (upd H a o') L (st.set n c) := by
  refine ⟨by simp [h.len], h.nd, fun m b c' e1 e2 => ?_⟩
  by_cases hm : n = m
  · subst hm
    rw [h1] at e1
    cases e1
    by_cases hn : n < st.length
    · rw [List.getElem?_set_self hn] at e2
      cases e2
      exact hc
    · rw [List.getElem?_eq_none (by simpa using hn)] at e2
      cases e2
  · rw [List.getElem?_set_ne hm] at e2
    refine (h.ok m b c' e1 e2).mono s.toAhead (upd_ne fun e => hm ?_)
    subst e
    have l1 := (List.getElem?_eq_some_iff.mp h1).1
    have l2 := (List.getElem?_eq_some_iff.mp e1).1
    exact (List.getElem?_inj l1 h.nd).mp (h1.trans e1.symm)
/-- fewer cells are told -/
theorem SR.fewer {n : Nat} (h : SR K H L' st') (e : L' = L ++ L'.drop L.length) (hn : n = L.length) (hu : ∀ (m : Nat) (c : Cell), st'[m]? = some c → m < n → ∀ a, CellOk K H L' a c → CellOk K H L a c) : SR K H L (st'.take n) := by
  have hle : L.length ≤ L'.length := by rw [e, List.length_append]; omega
  have hl := h.len
  refine ⟨by rw [List.length_take]; omega, ?_, fun m a c h1 h2 => ?_⟩
  · have := h.nd
    rw [e, List.nodup_append] at this
    exact this.1
  · have hm : m < n := by rw [hn]; exact (List.getElem?_eq_some_iff.mp h1).1
    rw [List.getElem?_take_of_lt hm] at h2
    refine hu m c h2 hm a (h.ok m a c ?_ h2)
    rw [e, List.getElem?_append_left (by omega)]
    exact h1
end

section
variable {K : PySem.W.Frag} {H : Hp} {L L' : List Addr}
mutual
theorem RV.less (e : ∃ M, L' = L ++ M) : ∀ {w : W} {v : V}, RV K H L' v w → w.und L.length = true → RV K H L v w
  | .non, _, h, _ => by cases h; exact .non
  | .bl _, _, h, _ => by cases h; exact .bl _
  | .int _, _, h, _ => by cases h; exact .int _
  | .str _, _, h, _ => by cases h; exact .str _
  | .tup ws, _, h, hu => by
    cases h with
    | tup h1 h2 => exact .tup h1 (RVs.less e h2 (by simpa [W.und] using hu))
  | .ref n, _, h, hu => by
    cases h with
    | ref h1 =>
      obtain ⟨M, rfl⟩ := e
      refine .ref ?_
      rw [List.getElem?_append_left (by simpa [W.und] using hu)] at h1
      exact h1
  | .scr _, _, h, _ => by
    cases h with
    | scr h1 => exact .scr h1
theorem RVs.less (e : ∃ M, L' = L ++ M) : ∀ {ws : List W} {vs : List V}, RVs K H L' vs ws → W.unds L.length ws = true → RVs K H L vs ws
  | [], _, h, _ => by cases h; exact .nil
  | w :: ws, _, h, hu => by
    cases h with
    | cons h1 h2 =>
      simp [W.unds] at hu
      exact .cons (RV.less e h1 hu.1) (RVs.less e h2 hu.2)
end
mutual
theorem RV.und : ∀ {w : W} {v : V}, RV K H L v w → w.und L.length = true
  | .non, _, _ => by simp [W.und]
  | .bl _, _, _ => by simp [W.und]
  | .int _, _, _ => by simp [W.und]
  | .str _, _, _ => by simp [W.und]
  | .tup ws, _, h => by
    cases h with
    | tup h1 h2 => simp [W.und, RVs.und h2]
  | .ref n, _, h => by
    cases h with
    | ref h1 => simp [W.und, (List.getElem?_eq_some_iff.mp h1).1]
  | .scr _, _, _ => by simp [W.und]
theorem RVs.und : ∀ {ws : List W} {vs : List V}, RVs K H L vs ws → W.unds L.length ws = true
  | [], _, _ => by simp [W.unds]
  | w :: ws, _, h => by
    cases h with
    | cons h1 h2 => simp [W.unds, RV.und h1, RVs.und h2]
end
theorem CellOk.und {a : Addr} {c : Cell} (h : CellOk K H L a c) : c.und L.length = true := by
  cases c with
  | lst ws =>
    obtain ⟨vs, _, h1⟩ := h
    exact RVs.und h1
theorem CellOk.less (e : ∃ M, L' = L ++ M) {a : Addr} {c : Cell} (h : CellOk K H L' a c) (hu : c.und L.length = true) : CellOk K H L a c := by
  cases c with
  | lst ws =>
    obtain ⟨vs, h0, h1⟩ := h
    exact ⟨vs, h0, RVs.less e h1 hu⟩
end
end Mi

namespace Mi
open PySem PySem.Spec PyProof.Rows L2

def AnsR {α β : Type} (rel : Hp → List Addr → α → β → Prop) (K : PySem.W.Frag) (H : Hp) (L : List Addr) (Q : α → Hp → Prop) : R β → Prop
  | .stk => False
  | .ok w st' => ∀ v H' L', SR K H' L' st' → Step H L H' L' → rel H' L' v w → Q v H'
abbrev Ans (K : PySem.W.Frag) (H : Hp) (L : List Addr) (Q : VK) (x : R W) : Prop := AnsR (RV K) K H L Q x
section
variable {K : PySem.W.Frag} {H H' H1 H2 : Hp} {L L' La Lb : List Addr} {st st' : Sto} {Q : VK}
theorem AnsR.step {α β : Type} {rel : Hp → List Addr → α → β → Prop} {Q : α → Hp → Prop} {x : R β} (h : AnsR rel K H L Q x) (s : Step H L H1 La) : AnsR rel K H1 La Q x := by
  cases x with
  | stk => exact h
  | ok w st' => exact fun v H' L' h1 h2 h3 => h v H' L' h1 (s.trans h2) h3
theorem okOld_mem : ∀ {n : Nat} {a b : Sto}, okOld n a b = true → ∀ (m : Nat) (c : Cell), b[m]? = some c → m < a.length → a[m]? = some c ∨ c.und n = true
  | n, [], _, _, m, c, _, hm => by simp at hm
  | n, x :: xs, [], h, _, _, _, _ => by simp [okOld] at h
  | n, x :: xs, y :: ys, h, 0, c, e, _ => by
    simp at e; subst e
    simp [okOld] at h
    rcases h.1 with h | h
    · left; rw [Cell.beq_eq h]; rfl
    · exact .inr h
  | n, x :: xs, y :: ys, h, m + 1, c, e, hm => by
    simp [okOld] at h
    have := okOld_mem h.2 m c (by simpa using e) (by simpa using hm)
    simpa using this
theorem okOld_refl (n : Nat) : ∀ (a l : Sto), okOld n a (a ++ l) = true
  | [], _ => by simp [okOld]
  | c :: cs, l => by simp [okOld, Cell.beq_refl, okOld_refl n cs l]
/-- what is told behind gc is told without it -/
theorem Ans.ungc (h0 : SR K H L st) {x : R W} (h : Ans K H L Q (x.gc st)) : Ans K H L Q x := by
  cases x with
  | stk => exact h
  | ok w st' =>
    intro v H' L' hs ss hv
    have hl : L.length = st.length := h0.len
    have hmore : ∃ M, L' = L ++ M := ss.more
    have hdrop : L' = L ++ L'.drop L.length := by
      obtain ⟨M, e⟩ := ss.more
      rw [e]; simp
    have hle : st.length ≤ st'.length := by rw [← hl, ← hs.len, hdrop, List.length_append]; omega
    have sL : Step H L H' L := .mk' ⟨[], by simp⟩ (fun a h n => absurd h n) ss.tups ss.frzs ss.keep
    change Ans K H L Q (Mi.gc st st' w) at h
    unfold Mi.gc at h
    by_cases h1 : okOld st.length st st' = true
    · rw [if_pos h1] at h
      have few : SR K H' L (st'.take st.length) := hs.fewer hdrop hl.symm fun m c e1 e2 a hc => by
        refine hc.less hmore ?_
        rcases okOld_mem h1 m c e1 e2 with e | e
        · have := (h0.ok m (L[m]'(by omega)) c (List.getElem?_eq_getElem _) e).und
          exact this
        · rw [hl]; exact e
      by_cases h2 : w.und st.length = true
      · rw [if_pos h2] at h
        exact h v H' L few sL (hv.less hmore (by rw [hl]; exact h2))
      · rw [if_neg h2] at h
        cases w with
        | ref k =>
          cases e : st'[k]? with
          | none =>
            simp only [e] at h
            exact h v H' L' hs ss hv
          | some c =>
            simp only [e] at h
            by_cases h3 : c.und st.length = true
            · rw [if_pos h3] at h
              cases hv with
              | ref hk =>
                rename_i a
                have hkn : st.length ≤ k := by simpa [W.und] using h2
                have hnot : a ∉ L := by
                  intro hm
                  obtain ⟨j, hj⟩ := List.getElem?_of_mem hm
                  have hjl := (List.getElem?_eq_some_iff.mp hj).1
                  have hj' : L'[j]? = some a := by
                    rw [hdrop, List.getElem?_append_left hjl]; exact hj
                  have := (List.getElem?_inj (List.getElem?_eq_some_iff.mp hj').1 hs.nd).mp (hj'.trans hk.symm)
                  omega
                have hc := (hs.ok k a c hk e).less hmore (by rw [hl]; exact h3)
                refine h (.ref a) H' (L ++ [a]) (few.more hnot (hc.mono (Ahead.cell H' L a) rfl)) (.mk' ⟨[a], rfl⟩ (fun b hb hn => ?_) ss.tups ss.frzs ss.keep) (.ref ?_)
                · rcases List.mem_append.mp hb with hb | hb
                  · exact absurd hb hn
                  · rw [List.mem_singleton.mp hb] at hn ⊢
                    exact ss.fresh a (List.mem_of_getElem? hk) hn
                · rw [← hl, List.getElem?_append_right (Nat.le_refl _)]
                  simp
            · rw [if_neg h3] at h
              exact h v H' L' hs ss hv
        | _ => exact h v H' L' hs ss hv
    · rw [if_neg h1] at h
      exact h v H' L' hs ss hv
/-- an answer that changes nothing -/
theorem AnsR.same {α β : Type} {rel : Hp → List Addr → α → β → Prop} {Q : α → Hp → Prop} {w : β} (h : AnsR rel K H L Q (.ok w st)) (hs : SR K H L st) {v : α} (hv : rel H L v w) : Q v H := h v H L hs (Step.refl H L) hv
/-- an answer that is a new list -/
theorem Ans.lst {ws : List W} {vs : List V} (h : Ans K H L Q (.ok (.ref st.length) (st ++ [.lst ws]))) (hs : SR K H L st) (hv : RVs K H L vs ws) {p : Addr} (hp : H p = none) : Q (.ref p) (upd H p (.lst vs)) := by
  refine h (.ref p) _ (L ++ [p]) (hs.push hp ⟨vs, upd_same, hv.mono (Step.alloc hp L).toAhead⟩) (Step.alloc hp L) (.ref ?_)
  rw [← hs.len, List.getElem?_append_right (Nat.le_refl _)]
  simp
/-- an answer that is a new tuple -/
theorem Ans.tup {ws : List W} {vs : List V} (h : Ans K H L Q (.ok (.tup ws) st)) (hs : SR K H L st) (hv : RVs K H L vs ws) {p : Addr} (hp : H p = none) : Q (.ref p) (upd H p (.tup vs)) :=
  h (.ref p) _ L (hs.laid hp) (Step.laid hp) (.tup (SqT.of upd_same) (hv.mono (Step.laid hp).toAhead))
theorem SR.lst (hs : SR K H L st) {n : Nat} {a : Addr} {ws : List W} (h1 : L[n]? = some a) (h2 : st[n]? = some (.lst ws)) : ∃ vs, H a = some (.lst vs) ∧ RVs K H L vs ws := hs.ok n a _ h1 h2
end

section
variable {K : PySem.W.Frag} {H : Hp} {L : List Addr} {st : Sto}
mutual
theorem dp_dat {h : Nat → Option PyData} (hh : ∀ n a d, L[n]? = some a → h n = some d → Dp K H (.ref a) d) : ∀ {w : W} {v : V} {d : PyData}, RV K H L v w → W.dat h w = some d → Dp K H v d
  | .non, _, _, r, e => by cases r; simp [W.dat] at e; subst e; exact .non
  | .bl _, _, _, r, e => by cases r; simp [W.dat] at e; subst e; exact .bl _
  | .int _, _, _, r, e => by cases r; simp [W.dat] at e; subst e; exact .int _
  | .str _, _, _, r, e => by cases r; simp [W.dat] at e; subst e; exact .str _
  | .tup ws, _, _, r, e => by
    cases r with
    | tup h1 h2 =>
      simp only [W.dat, Option.map_eq_some_iff] at e
      obtain ⟨ds, e1, rfl⟩ := e
      exact .tup h1 (dps_dat hh h2 e1)
  | .ref n, _, d, r, e => by
    cases r with
    | ref h1 => exact hh n _ d h1 (by simpa [W.dat] using e)
  | .scr _, _, _, _, e => by simp [W.dat] at e
theorem dps_dat {h : Nat → Option PyData} (hh : ∀ n a d, L[n]? = some a → h n = some d → Dp K H (.ref a) d) : ∀ {ws : List W} {vs : List V} {ds : List PyData}, RVs K H L vs ws → W.dats h ws = some ds → DpAll K H vs ds
  | [], _, _, r, e => by cases r; simp [W.dats] at e; subst e; exact .nil
  | w :: ws, _, _, r, e => by
    cases r with
    | cons h1 h2 =>
      rw [W.dats] at e
      cases e1 : W.dat h w with
      | none => simp [e1] at e
      | some d =>
        cases e2 : W.dats h ws with
        | none => simp [e1, e2] at e
        | some ds =>
          simp [e1, e2] at e
          subst e
          exact .cons (dp_dat hh h1 e1) (dps_dat hh h2 e2)
end
theorem dp_look (hs : SR K H L st) : ∀ (m n : Nat) (a : Addr) (d : PyData), L[n]? = some a → look st m n = some d → Dp K H (.ref a) d
  | 0, _, _, _, _, e => by simp [look] at e
  | m + 1, n, a, d, h1, e => by
    rw [look] at e
    cases e1 : st[n]? with
    | none => simp [e1] at e
    | some c =>
      cases c with
      | lst ws =>
        simp only [e1, Option.map_eq_some_iff] at e
        obtain ⟨ds, e2, rfl⟩ := e
        obtain ⟨vs, h2, h3⟩ := hs.lst h1 e1
        exact .lst (SqL.of h2) (dps_dat (dp_look hs m) h3 e2)
theorem dp_of (hs : SR K H L st) {w : W} {v : V} {d : PyData} (h : RV K H L v w) (e : dat st w = some d) : Dp K H v d := dp_dat (dp_look hs 8) h e
end

def rB (K : PySem.W.Frag) (f : W → W → Sto → R W) : R2 := fun x y H Q => ∃ L st wx wy, SR K H L st ∧ RV K H L x wx ∧ RV K H L y wy ∧ Ans K H L Q (f wx wy st)
section
variable {X : Cx}
theorem op_bin (op : Operator) : OpR X (binaryOp op) (rB X.K (binW op)) := by
  intro pins s σ H x y v u Q I rx ry h
  obtain ⟨L, st, wx, wy, hs, hx, hy, h⟩ := h
  unfold binW at h
  split at h
  · cases hx; cases hy
    exact op_add pins s σ H _ _ v u Q I rx ry ⟨_, _, rfl, rfl, h.same hs (.int _)⟩
  · split at h
    · rename_i hz
      cases hx with
      | tup h1 h2 =>
        cases hy with
        | tup h3 h4 =>
          refine op_catA pins s σ H _ _ v u Q I rx ry ⟨_, _, _, _, rfl, rfl, h1, h3, by rw [h2.length, h4.length]; exact hz, fun e => ?_, fun _ e => ?_, fun _ _ p hp => ?_⟩
          · subst e
            cases h2
            exact h.same hs (.tup h3 h4)
          · subst e
            cases h4
            exact h.same hs (.tup h1 (by simpa using h2))
          · exact Ans.tup h hs (h2.append h4) hp
    · exact h.elim
  · rename_i i j
    split at h
    · rename_i a b e1 e2
      split at h
      · rename_i hz
        cases hx with
        | ref h1 =>
          cases hy with
          | ref h3 =>
            obtain ⟨vs, h2, r1⟩ := hs.lst h1 e1
            obtain ⟨vs', h4, r2⟩ := hs.lst h3 e2
            exact op_cat pins s σ H _ _ v u Q I rx ry ⟨_, _, _, _, rfl, rfl, h2, h4, by rw [r1.length, r2.length]; exact hz, fun p hp => Ans.lst h hs (r1.append r2) hp⟩
      · exact h.elim
    · exact h.elim
  · cases hx; cases hy
    exact op_sub pins s σ H _ _ v u Q I rx ry ⟨_, _, rfl, rfl, h.same hs (.int _)⟩
  · split at h
    · rename_i hz
      cases hx; cases hy
      exact op_mul pins s σ H _ _ v u Q I rx ry ⟨_, _, rfl, rfl, hz, h.same hs (.int _)⟩
    · exact h.elim
  · split at h
    · rename_i hz
      cases hx; cases hy
      exact op_fdivN pins s σ H _ _ v u Q I rx ry ⟨_, _, rfl, rfl, hz, h.same hs (.int _)⟩
    · exact h.elim
  · split at h
    · rename_i hz
      cases hx; cases hy
      exact op_modN pins s σ H _ _ v u Q I rx ry ⟨_, _, rfl, rfl, hz, h.same hs (.int _)⟩
    · exact h.elim
  · split at h
    · rename_i hz
      cases hx; cases hy
      exact op_pow pins s σ H _ _ v u Q I rx ry ⟨_, _, rfl, rfl, hz, h.same hs (.int _)⟩
    · exact h.elim
  · exact h.elim
theorem strsW_eq {x y : W} {a b : Str} (h : strsW x y = some (a, b)) : x = .str a ∧ y = .str b := by
  cases x <;> cases y <;> simp [strsW] at h
  exact ⟨by rw [h.1], by rw [h.2]⟩
theorem eqW_of {st : Sto} {x y : W} {c : Bool} (h : eqW st x y = some c) : (∃ a b : Str, x = .str a ∧ y = .str b ∧ c = decide (a = b)) ∨ ∃ d e, dat st x = some d ∧ dat st y = some e ∧ SeqAt.shaped d = true ∧ SeqAt.shaped e = true ∧ c = PyData.eqv d e := by
  unfold eqW at h
  split at h
  · rename_i a b e
    cases h
    obtain ⟨rfl, rfl⟩ := strsW_eq e
    exact .inl ⟨a, b, rfl, rfl, rfl⟩
  · split at h
    · rename_i d e h1 h2
      split at h
      · rename_i hz
        cases h
        exact .inr ⟨d, e, h1, h2, hz.1, hz.2, rfl⟩
      · cases h
    · cases h
theorem op_cmpW (op : CmpOp) (hu : X.A.units + 64 < cLine) : OpR X (compareOp op) (rB X.K (cmpW op)) := by
  intro pins s σ H x y v u Q I rx ry h
  obtain ⟨L, st, wx, wy, hs, hx, hy, h⟩ := h
  unfold cmpW at h
  split at h
  · split at h
    · rename_i c e0
      rcases eqW_of e0 with ⟨a, b, rfl, rfl, rfl⟩ | ⟨d, e, e1, e2, z1, z2, rfl⟩
      · cases hx; cases hy
        refine op_eq pins s σ H _ _ v u Q I rx ry ⟨rfl, ?_⟩
        have ed : decide (V.str a = V.str b) = decide (a = b) := by
          rw [Bool.eq_iff_iff]
          simp
        rw [ed]
        exact h.same hs (.bl _)
      · exact op_eqD hu pins s σ H _ _ v u Q I rx ry ⟨_, _, dp_of hs hx e1, dp_of hs hy e2, z1, z2, h.same hs (.bl _)⟩
    · exact h.elim
  · split at h
    · rename_i c e0
      rcases eqW_of e0 with ⟨a, b, rfl, rfl, rfl⟩ | ⟨d, e, e1, e2, z1, z2, rfl⟩
      · cases hx; cases hy
        refine op_ne pins s σ H _ _ v u Q I rx ry ⟨rfl, ?_⟩
        have ed : decide (V.str a = V.str b) = decide (a = b) := by
          rw [Bool.eq_iff_iff]
          simp
        rw [ed]
        exact h.same hs (.bl _)
      · exact op_neD hu pins s σ H _ _ v u Q I rx ry ⟨_, _, dp_of hs hx e1, dp_of hs hy e2, z1, z2, h.same hs (.bl _)⟩
    · exact h.elim
  · split at h
    · cases hx; cases hy
      exact op_lt pins s σ H _ _ v u Q I rx ry ⟨_, _, rfl, rfl, h.same hs (.bl _)⟩
    · exact h.elim
  · split at h
    · cases hx; cases hy
      exact op_le pins s σ H _ _ v u Q I rx ry ⟨_, _, rfl, rfl, h.same hs (.bl _)⟩
    · exact h.elim
  · split at h
    · cases hx; cases hy
      exact op_gt pins s σ H _ _ v u Q I rx ry ⟨_, _, rfl, rfl, h.same hs (.bl _)⟩
    · exact h.elim
  · split at h
    · cases hx; cases hy
      exact op_ge pins s σ H _ _ v u Q I rx ry ⟨_, _, rfl, rfl, h.same hs (.bl _)⟩
    · exact h.elim
  · exact h.elim
def negW (x : W) (st : Sto) : R W := match x with
  | .int i => .ok (.int (-i)) st
  | _ => .stk
def rU1 (K : PySem.W.Frag) (f : W → Sto → R W) : V → Hp → VK → Prop := fun x H Q => ∃ L st wx, SR K H L st ∧ RV K H L x wx ∧ Ans K H L Q (f wx st)
theorem un_negW : UnR X (unaryOp .USub) (rU1 X.K negW) := by
  intro pins s σ H x v Q I rx h
  obtain ⟨L, st, wx, hs, hx, h⟩ := h
  unfold negW at h
  split at h
  · cases hx
    exact un_neg pins s σ H _ v Q I rx ⟨_, rfl, h.same hs (.int _)⟩
  · exact h.elim

theorem RVs.atI {K : PySem.W.Frag} {H : Hp} {L : List Addr} {vs : List V} {ws : List W} {i : Int} {w : W} (h : RVs K H L vs ws) (e : L2.atI ws i = some w) : ∃ v, L2.atI vs i = some v ∧ RV K H L v w := by
  unfold L2.atI at e ⊢
  rw [h.length]
  cases e1 : ixN ws.length i with
  | none => simp [e1] at e
  | some j =>
    simp only [e1, Option.bind_some] at e ⊢
    exact h.get e
theorem atI_map {α β : Type} (f : α → β) (xs : List α) (i : Int) : L2.atI (xs.map f) i = (L2.atI xs i).map f := by
  unfold L2.atI
  rw [List.length_map]
  cases ixN xs.length i with
  | none => rfl
  | some j => simp
theorem scr_sq {K : PySem.W.Frag} {H : Hp} {L : List Addr} {a : Addr} {ns : List Int} (h : RV K H L (.ref a) (.scr ns)) : SqL K H a (ns.map V.int) := by
  cases h with
  | scr h1 =>
    rcases h1 with ⟨o, h1⟩ | h1
    · exact .inl (.inr ⟨o, h1⟩)
    · exact .inr h1
theorem ix_W : IxR X (rB X.K ixW) := by
  intro value slice pins s σ H x y v u Q I rx ry h hsub
  obtain ⟨L, st, wx, wy, hs, hx, hy, h⟩ := h
  unfold ixW at h
  split at h
  · rename_i i
    cases hy
    cases e : itemW st wx i with
    | none => simp only [e] at h; exact h.elim
    | some w =>
      simp only [e] at h
      unfold itemW at e
      split at e
      · cases hx with
        | tup h1 h2 =>
          obtain ⟨z, e1, hz⟩ := h2.atI e
          exact ix_tup value slice pins s σ H _ _ v u Q I rx ry ⟨_, _, _, _, rfl, rfl, h1, e1, h.same hs hz⟩ hsub
      · obtain ⟨a, rfl⟩ : ∃ a, x = .ref a := by cases hx; exact ⟨_, rfl⟩
        rename_i ns
        have h1 := scr_sq hx
        cases e2 : L2.atI ns i with
        | none => simp [e2] at e
        | some n =>
          simp only [e2, Option.map_some, Option.some.injEq] at e
          subst e
          exact ix_list value slice pins s σ H _ _ v u Q I rx ry ⟨_, _, _, _, rfl, rfl, h1, by rw [atI_map, e2]; rfl, h.same hs (.int n)⟩ hsub
      · split at e
        · rename_i e2
          cases hx with
          | ref h1 =>
            obtain ⟨vs, h2, h3⟩ := hs.lst h1 e2
            obtain ⟨z, e1, hz⟩ := h3.atI e
            exact ix_list value slice pins s σ H _ _ v u Q I rx ry ⟨_, _, _, _, rfl, rfl, SqL.of h2, e1, h.same hs hz⟩ hsub
        · cases e
      · cases e
  · exact h.elim

def rSl3 (K : PySem.W.Frag) : V → Option Int → Option Int → Hp → VK → Prop := fun x lo hi H Q => ∃ L st wx, SR K H L st ∧ RV K H L x wx ∧ Ans K H L Q (slW wx lo hi st)
theorem RVs.cut {K : PySem.W.Frag} {H : Hp} {L : List Addr} {vs : List V} {ws : List W} (h : RVs K H L vs ws) (lo hi : Option Int) : RVs K H L (cutV vs lo hi) (cutW ws lo hi) := by
  unfold cutV cutW
  rw [h.length]
  exact (h.drop _).take _
theorem sl_W : SlR X (rSl3 X.K) := by
  intro pins s σ H x v vl vu lo hi sl Q I rx hsl pl pu h
  obtain ⟨L, st, wx, hs, hx, h⟩ := h
  unfold slW at h
  split at h
  · rename_i ws
    cases hx with
    | tup h1 h2 =>
      refine sl_tupA pins s σ H _ v vl vu lo hi sl Q I rx hsl pl pu ⟨_, _, rfl, h1, fun hw => ?_, fun _ p hp => Ans.tup h hs (h2.cut lo hi) hp⟩
      have e : cutW ws lo hi = ws := by
        unfold cutW
        rw [h2.length] at hw
        rw [hw.1, hw.2]; simp
      rw [e] at h
      exact h.same hs (.tup h1 h2)
  · split at h
    · rename_i e2
      cases hx with
      | ref h1 =>
        obtain ⟨vs, h2, h3⟩ := hs.lst h1 e2
        exact sl_list pins s σ H _ v vl vu lo hi sl Q I rx hsl pl pu ⟨_, _, rfl, SqL.of h2, fun p hp => Ans.lst h hs (h3.cut lo hi) hp⟩
    · exact h.elim
  · exact h.elim

def rSet3 (K : PySem.W.Frag) : V → V → V → Hp → (Hp → Prop) → Prop := fun o i v H Q => ∃ L st wo wi w, SR K H L st ∧ RV K H L o wo ∧ RV K H L i wi ∧ RV K H L v w ∧ AnsR (fun _ _ (_ : Unit) (_ : Unit) => True) K H L (fun _ H' => Q H') (setW wo wi w st)
theorem Step.lset {H : Hp} {L : List Addr} {a : Addr} {xs ys : List V} (ha : a ∈ L) (ho : H a = some (.lst xs)) : Step H L (upd H a (.lst ys)) L := Step.write ha ho (fun _ e => by cases e) fun _ _ e => by cases e
theorem SR.lset {K : PySem.W.Frag} {H : Hp} {L : List Addr} {st : Sto} {n : Nat} {a : Addr} {xs ys : List V} {ws : List W} (hs : SR K H L st) (h1 : L[n]? = some a) (ho : H a = some (.lst xs)) (hy : RVs K H L ys ws) : SR K (upd H a (.lst ys)) L (st.set n (.lst ws)) := by
  have s := Step.lset (ys := ys) (List.mem_of_getElem? h1) ho
  exact hs.write h1 s ⟨ys, upd_same, hy.mono s.toAhead⟩
theorem set_W : PSet X (rSet3 X.K) := by
  intro pins s σ H o i v ov iv u Q I ro ri rv h
  obtain ⟨L, st, wo, wi, w, hs, ho, hi, hv, h⟩ := h
  unfold setW at h
  split at h
  · rename_i r k
    split at h
    · rename_i xs e
      split at h
      · rename_i j e3
        cases ho with
        | ref h1 =>
          cases hi
          obtain ⟨vs, h2, h3⟩ := hs.lst h1 e
          exact set_list pins s σ H _ _ v ov iv u Q I ro ri rv ⟨_, _, _, j, rfl, rfl, h2, by rw [h3.length]; exact e3, h () _ L (hs.lset h1 h2 (h3.set hv j)) (Step.lset (List.mem_of_getElem? h1) h2) trivial⟩
      · exact h.elim
    · exact h.elim
  · exact h.elim

def Ty.nm : Ty → String
  | .list => "list"
  | .tuple => "tuple"
  | .int => "int"
  | .bool => "bool"
  | .str => "str"
end
end Mi

namespace Mi
open PySem PySem.Spec PyProof.Rows L2

section
variable {K : PySem.W.Frag} {H : Hp} {L : List Addr} {st : Sto}
theorem RVs.one {vs : List V} {w : W} (h : RVs K H L vs [w]) : ∃ v, vs = [v] ∧ RV K H L v w := by
  cases h with
  | cons a t => cases t; exact ⟨_, rfl, a⟩
theorem RVs.two {vs : List V} {w w' : W} (h : RVs K H L vs [w, w']) : ∃ v v', vs = [v, v'] ∧ RV K H L v w ∧ RV K H L v' w' := by
  cases h with
  | cons a t =>
    obtain ⟨v', rfl, b⟩ := t.one
    exact ⟨_, _, rfl, a, b⟩
theorem bools_rv : ∀ {ws : List W} {vs : List V} {bs : List Bool}, RVs K H L vs ws → bools ws = some bs → vs = bs.map V.bl
  | [], _, bs, h, e => by cases h; simp [bools] at e; subst e; rfl
  | w :: ws, _, bs, h, e => by
    cases h with
    | cons a t =>
      cases w with
      | bl b =>
        simp only [bools, Option.map_eq_some_iff] at e
        obtain ⟨bs', e1, rfl⟩ := e
        cases a
        rw [bools_rv t e1]; rfl
      | _ => simp [bools] at e
theorem seq_rv (hs : SR K H L st) {w : W} {v : V} {ws : List W} (h : RV K H L v w) (e : seqW st w = some ws) : ∃ a vs, v = .ref a ∧ RVs K H L vs ws ∧ (SqL K H a vs ∨ (SqT K H a vs ∧ w = .tup ws)) := by
  unfold seqW at e
  split at e
  · cases e
    cases h with
    | tup h1 h2 => exact ⟨_, _, rfl, h2, .inr ⟨h1, rfl⟩⟩
  · split at e
    · rename_i e1
      cases e
      cases h with
      | ref h1 =>
        obtain ⟨vs, h2, h3⟩ := hs.lst h1 e1
        exact ⟨_, _, rfl, h3, .inl (SqL.of h2)⟩
    · cases e
  · cases e
theorem lst_rv (hs : SR K H L st) {w : W} {v : V} {ws : List W} (h : RV K H L v w) (e : lstW st w = some ws) : ∃ a vs, v = .ref a ∧ RVs K H L vs ws ∧ SqL K H a vs := by
  unfold lstW at e
  split at e
  · split at e
    · rename_i e1
      cases e
      cases h with
      | ref h1 =>
        obtain ⟨vs, h2, h3⟩ := hs.lst h1 e1
        exact ⟨_, _, rfl, h3, SqL.of h2⟩
    · cases e
  · cases e
end

def rBi (K : PySem.W.Frag) (b : Bi) : List V → Hp → VK → Prop := fun vs H Q => ∃ L st ws, SR K H L st ∧ RVs K H L vs ws ∧ Ans K H L Q (biW b ws st)
def Bi.fv : Bi → Value
  | .abs => .builtin "abs"
  | .int => .type "int"
  | .len => .builtin "len"
  | .max2 => .builtin "max"
  | .min2 => .builtin "min"
  | .repr => .builtin "repr"
  | .list => .type "list"
  | .tuple => .type "tuple"
  | .all => .builtin "all"
  | .any => .builtin "any"
section
variable {X : Cx}
theorem cr_repr (hg : X.A.guards = some []) (hu : X.A.units + 66 < cLine) : CallR X (.builtin "repr") (rBi X.K .repr) := by
  intro pins s σ H vs us Q I r h
  obtain ⟨L, st, ws, hs, hv, h⟩ := h
  unfold biW at h
  split at h
  all_goals (first | (rename_i hb; exact absurd hb (by decide)) | skip)
  all_goals (first | exact h.elim | skip)
  rename_i w _
  split at h
  · rename_i d e
    split at h
    · rename_i hz
      obtain ⟨h1, h2, h3, h4⟩ := hz
      obtain ⟨v, rfl, hw⟩ := hv.one
      obtain ⟨u, rfl, rv⟩ := vals1 r
      have dp := dp_of hs hw e
      obtain ⟨as, rd⟩ := Dp.reads I d v u dp rv
      have fin : ∀ h' u' tk, (∀ b o, s.heap.get? b = some o → h'.get? b = some o) → EP X pins σ Q (.str d.shown u') { s with heap := h', toks := tk } := fun h' u' tk hk =>
        ⟨.str d.shown, H, I.kept hk, ⟨_, rfl⟩, h.same hs (.str _)⟩
      cases dp with
      | non =>
        cases rv
        simp only [PyData.shown] at fin
        exact PySem.P.repr_of_none (fin s.heap _ _ fun _ _ e => e)
      | bl b =>
        cases rv
        simp only [PyData.shown] at fin
        exact PySem.P.repr_of_bool (fin s.heap _ _ fun _ _ e => e)
      | int i =>
        obtain ⟨t, rfl⟩ := rv
        simp only [PyData.shown] at fin
        exact PySem.P.repr_of_int (by simpa [PyData.showable] using h1) (fin s.heap _ _ fun _ _ e => e)
      | str x =>
        obtain ⟨t, rfl⟩ := rv
        simp only [PyData.shown] at fin h4
        exact PySem.P.repr_of_str (fin s.heap _ _ fun _ _ e => e) h4
      | lst q1 q2 =>
        cases rv
        exact repr_of_reads' rd h1 (PyData.noDict_hsm h2) hg (by omega) (fun _ _ e => e) (fun h' u' tk hk => fin h' u' tk hk) h4
      | tup q1 q2 =>
        cases rv
        exact repr_of_reads' rd h1 (PyData.noDict_hsm h2) hg (by omega) (fun _ _ e => e) (fun h' u' tk hk => fin h' u' tk hk) h4
    · exact h.elim
  · exact h.elim
theorem cr_biW (hc : X.calm = true) (hg : X.A.guards = some []) (hu : X.A.units + 66 < cLine) (b : Bi) : CallR X b.fv (rBi X.K b) := by
  by_cases hb : b = .repr
  · subst hb; exact cr_repr hg hu
  intro pins s σ H vs us Q I r h
  obtain ⟨L, st, ws, hs, hv, h⟩ := h
  unfold biW at h
  split at h
  · obtain ⟨v, rfl, hw⟩ := hv.one
    cases hw
    exact call_abs pins s σ H _ us Q I r ⟨_, rfl, h.same hs (.int _)⟩
  · obtain ⟨v, rfl, hw⟩ := hv.one
    cases hw
    exact call_int1 pins s σ H _ us Q I r (.inl ⟨_, rfl, h.same hs (.int _)⟩)
  · obtain ⟨v, rfl, hw⟩ := hv.one
    cases hw
    exact call_int1 pins s σ H _ us Q I r (.inr ⟨_, rfl, h.same hs (.int _)⟩)
  · obtain ⟨v, rfl, hw⟩ := hv.one
    cases hw with
    | tup h1 h2 => exact call_len pins s σ H _ us Q I r ⟨_, _, rfl, .inr ⟨_, h1, rfl⟩, by rw [h2.length]; exact h.same hs (.int _)⟩
  · obtain ⟨v, rfl, hw⟩ := hv.one
    obtain ⟨a, rfl⟩ : ∃ a, v = .ref a := by cases hw; exact ⟨_, rfl⟩
    exact call_len pins s σ H _ us Q I r ⟨_, _, rfl, .inl ⟨_, scr_sq hw, rfl⟩, by rw [List.length_map]; exact h.same hs (.int _)⟩
  · split at h
    · rename_i e
      obtain ⟨v, rfl, hw⟩ := hv.one
      cases hw with
      | ref h1 =>
        obtain ⟨vs, h2, h3⟩ := hs.lst h1 e
        exact call_len pins s σ H _ us Q I r ⟨_, _, rfl, .inl ⟨_, SqL.of h2, rfl⟩, by rw [h3.length]; exact h.same hs (.int _)⟩
    · exact h.elim
  · obtain ⟨v, v', rfl, hw, hw'⟩ := hv.two
    cases hw; cases hw'
    exact call_max2 hc pins s σ H _ us Q I r ⟨_, _, rfl, h.same hs (.int _)⟩
  · obtain ⟨v, v', rfl, hw, hw'⟩ := hv.two
    cases hw; cases hw'
    exact call_min2 hc pins s σ H _ us Q I r ⟨_, _, rfl, h.same hs (.int _)⟩
  · exact absurd rfl hb
  · split at h
    · rename_i e
      obtain ⟨v, rfl, hw⟩ := hv.one
      obtain ⟨a, vs, rfl, h2, h3⟩ := seq_rv hs hw e
      exact call_list_of pins s σ H _ us Q I r ⟨_, _, rfl, h3.imp id (·.1), fun p hp => Ans.lst h hs h2 hp⟩
    · exact h.elim
  · split at h
    · rename_i e
      obtain ⟨v, rfl, hw⟩ := hv.one
      obtain ⟨a, vs, rfl, h2, h3⟩ := seq_rv hs hw e
      rcases h3 with h3 | ⟨h3, rfl⟩
      · exact call_tuple_of pins s σ H _ us Q I r ⟨_, _, rfl, .inl ⟨h3, fun p hp => Ans.tup h hs h2 hp⟩⟩
      · exact call_tuple_of pins s σ H _ us Q I r ⟨_, _, rfl, .inr ⟨h3, h.same hs hw⟩⟩
    · exact h.elim
  · split at h
    · rename_i e
      split at h
      · rename_i e2
        obtain ⟨v, rfl, hw⟩ := hv.one
        obtain ⟨a, vs, rfl, h2, h3⟩ := lst_rv hs hw e
        have e3 := bools_rv h2 e2
        subst e3
        exact cr_all hc pins s σ H _ us Q I r ⟨_, _, rfl, h3, h.same hs (.bl _)⟩
      · exact h.elim
    · exact h.elim
  · split at h
    · rename_i e
      split at h
      · rename_i e2
        obtain ⟨v, rfl, hw⟩ := hv.one
        obtain ⟨a, vs, rfl, h2, h3⟩ := lst_rv hs hw e
        have e3 := bools_rv h2 e2
        subst e3
        exact cr_any hc pins s σ H _ us Q I r ⟨_, _, rfl, h3, h.same hs (.bl _)⟩
      · exact h.elim
    · exact h.elim
  · exact h.elim
/-- isinstance -/
def rTy (K : PySem.W.Frag) (t : Ty) : List V → Hp → VK → Prop := fun vs H Q => ∃ L st v w, vs = [v, .ty t.nm] ∧ SR K H L st ∧ RV K H L v w ∧ Ans K H L Q (isTy t w st)
theorem cr_isi (t : Ty) : CallR X (.builtin "isinstance") (rTy X.K t) := by
  intro pins s σ H vs us Q I r h
  obtain ⟨L, st, v, w, rfl, hs, hv, h⟩ := h
  have go : ∀ (T : String) (b : Bool), TyX X.K H v (.type T) → kitB T t.nm = some b → Q (.bl b) H → wpAny (model X.prog X.w) X.A (call (.builtin "isinstance") us) (EP X pins σ Q) X.xe s := fun T b ty hk q =>
    call_isi pins s σ H _ us Q I r ⟨v, .ty t.nm, .type T, .type t.nm, b, rfl, .ty _, ty, kit_ty hk, q⟩
  unfold isTy at h
  split at h
  · cases hv
    exact go "NoneType" false (.base .non) (by cases t <;> decide +kernel) (h.same hs (.bl _))
  · cases hv
    refine go "bool" _ (.base (.bl _)) ?_ (h.same hs (.bl _))
    cases t <;> decide +kernel
  · cases hv
    refine go "int" _ (.base (.int _)) ?_ (h.same hs (.bl _))
    cases t <;> decide +kernel
  · cases hv
    refine go "str" _ (.base (.str _)) ?_ (h.same hs (.bl _))
    cases t <;> decide +kernel
  · cases hv with
    | tup h1 h2 =>
      refine go "tuple" _ ?_ ?_ (h.same hs (.bl _))
      · rcases h1 with (h1 | ⟨o, h1⟩) | ⟨o, its, n, h1, h3, _⟩
        · exact .base (.tup h1)
        · exact .fTuple h1
        · exact .kTuple h1 h3
      · cases t <;> decide +kernel
  · exact h.elim
  · split at h
    · rename_i e
      cases hv with
      | ref h1 =>
        obtain ⟨vs, h2, h3⟩ := hs.lst h1 e
        refine go "list" _ (.base (.lst h2)) ?_ (h.same hs (.bl _))
        cases t <;> decide +kernel
    · exact h.elim
/-- methods -/
def rBm (K : PySem.W.Frag) (m : Bm) : V → List V → Hp → VK → Prop := fun x vs H Q => ∃ L st w ws, SR K H L st ∧ RV K H L x w ∧ RVs K H L vs ws ∧ Ans K H L Q (bmW m w ws st)
theorem mt_appendW : MtR X "list.append" (rBm X.K .append) := by
  intro pins s σ H x vs v us Q I rx r h
  obtain ⟨L, st, w, ws, hs, hx, hv, h⟩ := h
  unfold bmW at h
  split at h
  · split at h
    · rename_i e
      split at h
      · rename_i hz
        cases hx with
        | ref h1 =>
          obtain ⟨y, rfl, hy⟩ := hv.one
          obtain ⟨vs, h2, h3⟩ := hs.lst h1 e
          exact mt_append pins s σ H _ _ v us Q I rx r ⟨_, _, _, rfl, rfl, h2, by rw [h3.length]; exact hz, h _ _ L (hs.lset h1 h2 (h3.append (.cons hy .nil))) (Step.lset (List.mem_of_getElem? h1) h2) .non⟩
      · exact h.elim
    · exact h.elim
  · exact h.elim
end

mutual
def Tg.own : Tg → List Nat
  | .nm i => [i]
  | .tup ts => Tg.owns ts
def Tg.owns : List Tg → List Nat
  | [] => []
  | t :: ts => Tg.own t ++ Tg.owns ts
end
/-- the slots but those in is are as they were -/
def But (is : List Nat) (σ σ' : L2.St) : Prop := σ'.length = σ.length ∧ ∀ (i : Nat), i ∉ is → σ'[i]? = σ[i]?
theorem But.refl (σ : L2.St) : But [] σ σ := ⟨rfl, fun _ _ => rfl⟩
theorem But.trans {is js : List Nat} {σ σ1 σ2 : L2.St} (a : But is σ σ1) (b : But js σ1 σ2) : But (is ++ js) σ σ2 := ⟨b.1.trans a.1, fun i hi => by
  simp only [List.mem_append, not_or] at hi
  exact (b.2 i hi.2).trans (a.2 i hi.1)⟩
theorem wipe_get {σ : L2.St} : ∀ {vs : List Nat} {i : Nat}, i ∈ vs → i < σ.length → (wipe σ vs)[i]? = some none
  | v :: vs, i, h, hl => by
    unfold wipe
    by_cases e : v = i
    · subst e
      rw [List.getElem?_set_self (by rw [wipe_length]; exact hl)]
    · rw [List.getElem?_set_ne e]
      exact wipe_get ((List.mem_cons.mp h).resolve_left fun z => e z.symm) hl
theorem wipe_notin {σ : L2.St} : ∀ {vs : List Nat} {i : Nat}, i ∉ vs → (wipe σ vs)[i]? = σ[i]?
  | [], _, _ => rfl
  | v :: vs, i, h => by
    unfold wipe
    simp only [List.mem_cons, not_or] at h
    rw [List.getElem?_set_ne fun e => h.1 e.symm]
    exact wipe_notin h.2
theorem But.wipe {is vs : List Nat} {σ σ' : L2.St} (b : But is (wipe σ vs) σ') (h : ∀ i ∈ is, i ∈ vs) : L2.wipe σ' vs = L2.wipe σ vs := by
  have hl : σ'.length = σ.length := b.1.trans (wipe_length σ vs)
  apply List.ext_getElem?
  intro i
  by_cases hi : i ∈ vs
  · by_cases hlt : i < σ.length
    · rw [wipe_get hi (by rw [hl]; exact hlt), wipe_get hi hlt]
    · rw [List.getElem?_eq_none (by rw [wipe_length, hl]; omega), List.getElem?_eq_none (by rw [wipe_length]; omega)]
  · rw [wipe_notin hi, b.2 i (fun z => hi (h i z))]
def tT (K : PySem.W.Frag) (t : Tg) : TG := fun v σ H Q => ∃ L st r w r', SR K H L st ∧ SlOk K H L σ r ∧ RV K H L v w ∧ bindT t w r = some r' ∧ ∀ σ', SlOk K H L σ' r' → But t.own σ σ' → Q σ' H
def tTs (K : PySem.W.Frag) (ts : List Tg) : TGs := fun vs σ H Q => ∃ L st r ws r', SR K H L st ∧ SlOk K H L σ r ∧ RVs K H L vs ws ∧ bindTs ts ws r = some r' ∧ ∀ σ', SlOk K H L σ' r' → But (Tg.owns ts) σ σ' → Q σ' H
theorem PG.weak {X : Cx} {e : Expr} {t t' : TG} (h : PG X e t) (hw : ∀ v σ H Q, t' v σ H Q → t v σ H Q) : PG X e t' := ⟨fun pins s σ H v u Q I r q => h.run pins s σ H v u Q I r (hw _ _ _ _ q)⟩
theorem PGs.weak {X : Cx} {e : List Expr} {t t' : TGs} (h : PGs X e t) (hw : ∀ v σ H Q, t' v σ H Q → t v σ H Q) : PGs X e t' := ⟨fun pins s σ H v u Q I r q => h.run pins s σ H v u Q I r (hw _ _ _ _ q)⟩
theorem PE.weak {X : Cx} {e : Expr} {t t' : TE} (h : PE X e t) (hw : ∀ σ H Q, t' σ H Q → t σ H Q) : PE X e t' := ⟨fun pins s σ H Q I q => h.run pins s σ H Q I (hw _ _ _ q)⟩
theorem PT.weak {X : Cx} {e : Expr} {t t' : TT} (h : PT X e t) (hw : ∀ σ H Q, t' σ H Q → t σ H Q) : PT X e t' := ⟨fun pins s σ H Q I q => h.run pins s σ H Q I (hw _ _ _ q)⟩
theorem PW.weak {X : Cx} {e : Expr} {t t' : TT} (h : PW X e t) (hw : ∀ σ H Q, t' σ H Q → t σ H Q) : PW X e t' := ⟨fun wh pins s σ H Q I q => h.run wh pins s σ H Q I (hw _ _ _ q)⟩
theorem PA.weak {X : Cx} {e : List Expr} {t t' : TA} (h : PA X e t) (hw : ∀ σ H Q, t' σ H Q → t σ H Q) : PA X e t' := ⟨fun pos pins s σ H Q I q => h.run pos pins s σ H Q I (hw _ _ _ q)⟩
theorem PS.weak {X : Cx} {e : Stmt} {t t' : TS} (h : PS X e t) (hw : ∀ D σ H, t' D σ H → t D σ H) : PS X e t' := ⟨fun pins s σ H D I q => h.run pins s σ H D I (hw _ _ _ q)⟩
theorem PSs.weak {X : Cx} {e : List Stmt} {t t' : TS} (h : PSs X e t) (hw : ∀ D σ H, t' D σ H → t D σ H) : PSs X e t' := ⟨fun pins s σ H D I q => h.run pins s σ H D I (hw _ _ _ q)⟩
theorem PI.weak {X : Cx} {tg e : Expr} {t t' : TI} (h : PI X tg e t) (hw : ∀ σ H R, t' σ H R → t σ H R) : PI X tg e t' := ⟨fun pins s σ H R I q => h.run pins s σ H R I (hw _ _ _ q)⟩

structure Ck where
  /-- the names by slot -/
  N : List Str
  /-- the scope that runs -/
  sc : Scope
  /-- which cells may be stored -/
  fn : Str → Bool
def visC (sc : Scope) (x : Str) : Bool := match sc.names.lookup x with
  | some .local | some .cell | some .free => true
  | _ => false
def locC (c : Ck) (x : Str) : Bool := match c.sc.names.lookup x with
  | some .local => true
  | some .cell => c.fn x
  | _ => false
theorem visC_ok {sc : Scope} {x : Str} (h : visC sc x = true) : Vis sc x := by
  unfold visC at h
  split at h <;> first | exact .inl (by assumption) | exact .inr (.inl (by assumption)) | exact .inr (.inr (by assumption)) | cases h
/-- what the context of a def's code has, whatever the code -/
structure Okc (c : Ck) (X : Cx) : Prop where
  N : X.N = c.N
  nd : X.N.Nodup
  sc : X.env.scope = c.sc
  fn : ∀ x, c.fn x = true → X.fn x = true
  calm : X.calm = true
theorem locC_ok {c : Ck} {X : Cx} (o : Okc c X) {x : Str} (h : locC c x = true) : Loc X.env.scope x ∧ (X.fn x = true ∨ X.env.scope.names.lookup x = some .local) := by
  unfold locC at h
  rw [← o.sc] at h
  split at h
  · exact ⟨.inl (by assumption), .inr (by assumption)⟩
  · exact ⟨.inr (by assumption), .inl (o.fn x h)⟩
  · cases h
mutual
def okT (c : Ck) : Tg → Expr → Bool
  | .nm i, .Name x _ => decide (c.N[i]? = some x) && locC c x
  | .tup ts, .Tuple es _ _ => okTs c ts es
  | _, _ => false
def okTs (c : Ck) : List Tg → List Expr → Bool
  | [], [] => true
  | t :: ts, e :: es => okT c t e && okTs c ts es
  | _, _ => false
end
theorem okT_each {c : Ck} {t : Tg} {e : Expr} (h : okT c t e = true) (es : List Expr) (env : Env) : assignEach (e :: es) env = (false, assign e env) :: assignEach es env := by
  cases t <;> cases e <;> simp [okT] at h <;> rfl
theorem okTs_len {c : Ck} : ∀ {ts : List Tg} {es : List Expr}, okTs c ts es = true → ∀ env : Env, (assignEach es env).length = ts.length ∧ (assignEach es env).findIdx? (·.1) = none
  | [], [], _, env => ⟨rfl, rfl⟩
  | [], _ :: _, h, _ => by simp [okTs] at h
  | _ :: _, [], h, _ => by simp [okTs] at h
  | t :: ts, e :: es, h, env => by
    simp [okTs] at h
    obtain ⟨h1, h2⟩ := okTs_len h.2 env
    rw [okT_each h.1]
    refine ⟨by simp [h1], ?_⟩
    rw [List.findIdx?_cons]
    simp [h2]
theorem bindTs_length : ∀ {ts : List Tg} {ws : List W} {r r' : Sl}, bindTs ts ws r = some r' → ws.length = ts.length
  | [], [], _, _, _ => rfl
  | [], _ :: _, _, _, h => by simp [bindTs] at h
  | _ :: _, [], _, _, h => by simp [bindTs] at h
  | t :: ts, w :: ws, r, r', h => by
    rw [bindTs] at h
    split at h
    · simp [bindTs_length h]
    · cases h
mutual
theorem pg_T {c : Ck} {X : Cx} (o : Okc c X) : ∀ {t : Tg} {e : Expr}, okT c t e = true → PG X e (tT X.K t)
  | .nm i, e, h => by
    cases e <;> simp [okT] at h
    obtain ⟨h1, h2⟩ := h
    obtain ⟨l1, l2⟩ := locC_ok o h2
    refine PG.weak (pg_name o.nd (by rw [o.N]; exact h1) l1 l2) fun v σ H Q q => ?_
    obtain ⟨L, st, r, w, r', hs, hr, hv, hb, q⟩ := q
    simp [bindT] at hb
    subst hb
    exact q _ (hr.set hv i) ⟨by simp, fun j hj => List.getElem?_set_ne (by simp [Tg.own] at hj; exact fun e => hj e.symm)⟩
  | .tup ts, e, h => by
    cases e <;> simp [okT] at h
    rename_i es k pos
    obtain ⟨n1, n2⟩ := okTs_len h X.env
    refine PG.weak (pg_tup o.calm (pg_Ts o h) n1 n2) fun v σ H Q q => ?_
    obtain ⟨L, st, r, w, r', hs, hr, hv, hb, q⟩ := q
    cases w <;> simp [bindT] at hb
    cases hv with
    | tup h1 h2 => exact ⟨_, _, rfl, h1, by rw [h2.length]; exact bindTs_length hb, L, st, r, _, r', hs, hr, h2, hb, fun σ' h3 h4 => q σ' h3 (by simp only [Tg.own]; exact h4)⟩
theorem pg_Ts {c : Ck} {X : Cx} (o : Okc c X) : ∀ {ts : List Tg} {es : List Expr}, okTs c ts es = true → PGs X es (tTs X.K ts)
  | [], [], _ => PGs.weak pgs_nil fun vs σ H Q q => by
    obtain ⟨L, st, r, ws, r', hs, hr, hv, hb, q⟩ := q
    cases hv <;> simp [bindTs] at hb
    subst hb
    exact ⟨rfl, q _ hr (by simp only [Tg.owns]; exact But.refl σ)⟩
  | [], _ :: _, h => by simp [okTs] at h
  | _ :: _, [], h => by simp [okTs] at h
  | t :: ts, e :: es, h => by
    simp [okTs] at h
    refine PGs.weak (pgs_cons (pg_T o h.1) (pg_Ts o h.2) (by rw [okT_each h.1]; rfl)) fun vs σ H Q q => ?_
    obtain ⟨L, st, r, ws, r', hs, hr, hv, hb, q⟩ := q
    cases hv with
    | nil => simp [bindTs] at hb
    | cons a tl =>
      rw [bindTs] at hb
      split at hb
      · rename_i r1 e1
        exact ⟨_, _, rfl, L, st, r, _, r1, hs, hr, a, e1, fun σ' hr' hb' => ⟨L, st, r1, _, r', hs, hr', tl, hb, fun σ2 h3 h4 => q σ2 h3 (by simp only [Tg.owns]; exact hb'.trans h4)⟩⟩
      · cases hb
end
end Mi

namespace Mi
open PySem PySem.Spec PyProof.Rows L2

structure FnG (P : Program) (w : World) (K : PySem.W.Frag) (mg : Str → Option Value) (base : Heap) (CX : CXT) (k : Nat) (f : Addr) (fd : FuncData) (ps : List Str) (sp : Sp) : Prop where
  run : ∀ (A : Around) (outer : List Env) (s : Shared) (H : Hp) (args : Args) (us : List Value) (vs : List V) (Q : VK) (E : XK), Room k A → A.guards = some [] → Env0 P w K mg base A outer s H → BindsTo s fd args (ps.zip us) → Vals vs us → vs.length = ps.length → sp vs H Q E →
    codeAny (model P w) A (.call (.ref f) args) (CR CX outer P w H s Q E) s
theorem FnG.of {CX : CXT} {P : Program} {w : World} {K : PySem.W.Frag} {mg : Str → Option Value} {base : Heap} {x qual : Str} {params : Arguments} {body : List Stmt} {scope : Scope} {dvs : List V} {kws : List (Str × V)} {f : Addr} {fd : FuncData} {N ps : List Str} {k : Nat} {sp : Sp}
    (F : FunD K x qual params body scope dvs kws f fd) (S : FnScope N ps scope)
    (hbody : ∀ (cdv : Value) (A : Around) (outer : List Env) (s : Shared) (H : Hp) (vs : List V) (Q : VK) (E : XK), Room k (A.deeper (envOfC qual scope s.heap.objs.size f cdv)) → A.guards = some [] → vs.length = ps.length → sp vs H Q E →
      ∃ t, PSs (cxOf CX P w K mg base N qual scope f cdv A outer s H E) body t ∧ t { nx := fun _ H' => Q .non H', rt := Q } (start N vs) H) : FnG P w K mg base CX (k + 1) f fd ps sp := by
  obtain ⟨oc, od, dV, kV, doc, pm, an, cdv, ct, osl, rfl, lk, hcd, _, _⟩ := F.ex
  refine ⟨fun A outer s H args us vs Q E hr hg e0 hb r hl hsp => ?_⟩
  have hX : K.In s.heap := e0.mod.kin.keeps fun b o e => (e0.bs b o e).1
  have hlim : s.heap.NoLimit := e0.mod.nolimit.keeps fun b o e => (e0.bs b o e).1
  have kinds : ∀ y ∈ ps.zip us, scope.names.lookup y.1 = some .local ∨ (scope.names.lookup y.1 = some .cell ∧ ((cellsFrom (s.heap.objs.size + 1) scope.names []).lookup y.1).isSome = true) := by
    rintro ⟨n, v⟩ hy
    rcases S.par n (List.of_mem_zip hy).1 with q | q
    · left; exact q
    · right; exact ⟨q, PySem.W.cellsFrom_some _ _ _ (.inl q)⟩
  apply codeAny_call_function hr.depth (hX _ _ lk) rfl S.co S.gen rfl (PySem.W.codeRec_of hX hcd)
  apply hb
  refine wpAny_newFunctionEnv_cells S.kind kinds fun env he s1 x => ?_
  subst he
  refine ⟨hlim.keeps x.toInCall.keep, codeAny_func ?_⟩
  obtain ⟨t, ht, hq⟩ := hbody cdv A outer s H vs Q E (hr.deeper _) hg hl hsp
  have I : Inv (cxOf CX P w K mg base N qual scope f cdv A outer s H E) [] (start N vs) H s1 := inv_start S hr.hd e0 hl r x
  refine wpAny_mono (ht.run [] s1 (start N vs) H _ I hq) (fun fl s' hs => ?_) fun e s' hs => hs
  cases fl with
  | ret u =>
    obtain ⟨v, σ', H', J, rv, q⟩ := hs
    exact ⟨v, H', J.os, J.bare, J.base, J.hok, rv, q⟩
  | next =>
    obtain ⟨σ', H', J, q⟩ := hs
    exact ⟨V.non, H', J.os, J.bare, J.base, J.hok, rfl, q⟩
  | brk => obtain ⟨_, _, _, q⟩ := hs; exact q.elim
  | cont => obtain ⟨_, _, _, q⟩ := hs; exact q.elim
section
variable {X : Cx} {CX : CXT} {k : Nat} {f : Addr} {fd : FuncData} {ps ks : List Str} {sp : Sp} {E : XK}
theorem FnG.go {pins : List (Addr × Obj)} {σ : L2.St} {H : Hp} {s : Shared} {Q : VK} {us ws xs : List Value} {fs : List V} (F : FnG X.prog X.w X.K X.mg X.base CX k f fd ps sp) (hr : Room k X.A) (hg : X.A.guards = some []) (hx : Passes CX X E)
    (I : Inv X pins σ H s) (hb : BindsTo s fd ⟨us, ks.zip ws⟩ (ps.zip xs)) (r : Vals fs xs) (hl : fs.length = ps.length) (h : sp fs H Q E) : wpAny (model X.prog X.w) X.A (call (.ref f) us (ks.zip ws)) (EP X pins σ Q) X.xe s := by
  refine wpAny_call (codeAny_mono (F.run X.A X.stack s H _ xs fs Q E hr hg I.env0 hb r hl h) fun r s' hq => ?_)
  cases r with
  | error e => exact hx pins σ H s e s' I hq
  | ok fl =>
    cases fl with
    | ret u => exact I.after hq
    | next => exact hq.elim
    | brk => exact hq.elim
    | cont => exact hq.elim
end

/-- a way to call: the def, how many positional arguments, the keywords, where the parameters' values come from -/
structure Sh where
  f : Nat
  n : Nat
  ks : List Str
  pl : List Pl
def Pl.beq : Pl → Pl → Bool
  | .p i, .p j => decide (i = j)
  | .k i, .k j => decide (i = j)
  | .d w, .d w' => W.beq w w'
  | _, _ => false
theorem Pl.beq_eq {a b : Pl} (h : Pl.beq a b = true) : a = b := by
  cases a <;> cases b <;> simp [Pl.beq] at h
  · rw [h]
  · rw [h]
  · rw [W.beq_eq h]
def okPl : List Pl → List Pl → Bool
  | [], [] => true
  | a :: as, b :: bs => Pl.beq a b && okPl as bs
  | _, _ => false
theorem okPl_eq : ∀ {a b : List Pl}, okPl a b = true → a = b
  | [], [], _ => rfl
  | [], _ :: _, h => by simp [okPl] at h
  | _ :: _, [], h => by simp [okPl] at h
  | a :: as, b :: bs, h => by
    simp [okPl] at h
    rw [Pl.beq_eq h.1, okPl_eq h.2]
/-- n positional arguments, from the i-th on -/
def plainFrom : Nat → Nat → List Pl
  | _, 0 => []
  | i, n + 1 => .p i :: plainFrom (i + 1) n
theorem plain_all (zs : List W) : ∀ (ws pre : List W), Pl.all (pre ++ ws) zs (plainFrom pre.length ws.length) = some ws
  | [], _ => rfl
  | w :: ws, pre => by
    have ih := plain_all zs ws (pre ++ [w])
    rw [List.append_assoc, List.length_append] at ih
    simp only [List.length_cons, plainFrom, Pl.all, Pl.get]
    rw [List.getElem?_append_right (Nat.le_refl _)]
    simp only [Nat.sub_self, List.getElem?_cons_zero]
    rw [show pre ++ w :: ws = pre ++ ([w] ++ ws) from rfl]
    simp only [List.length_singleton] at ih
    rw [ih]
structure Bnd (K : PySem.W.Frag) (fd : FuncData) (ps : List Str) (sh : Sh) : Prop where
  go : ∀ (s : Shared) (us zs : List Value) (vs ys : List V), K.In s.heap → us.length = sh.n → zs.length = sh.ks.length → Vals vs us → Vals ys zs →
    ∃ xs fs, BindsTo s fd ⟨us, sh.ks.zip zs⟩ (ps.zip xs) ∧ Vals fs xs ∧ fs.length = ps.length ∧ ∀ H L wsv wsy xw, RVs K H L vs wsv → RVs K H L ys wsy → Pl.all wsv wsy sh.pl = some xw → RVs K H L fs xw
def spI (K : PySem.W.Frag) (c : List W → Sto → R W) : Sp := fun vs H Q _ => ∃ L st ws, SR K H L st ∧ RVs K H L vs ws ∧ Ans K H L Q (c ws st)
/-- the defs as a body finds them -/
structure Fns (T : Tab) (shs : List Sh) (cl : Nat → List W → Sto → R W) (k : Nat) (P : Program) (w : World) (K : PySem.W.Frag) (mg : Str → Option Value) (base : Heap) : Prop where
  fn : ∀ f d, T[f]? = some d → ∃ (a : Addr) (fd : FuncData), mg d.nm = some (.ref a) ∧ PySem.W.keepIn K (.ref a) = true ∧ FnG P w K mg base CX0 k a fd d.ps (spI K (cl f)) ∧ ∀ sh ∈ shs, sh.f = f → Bnd K fd d.ps sh
  free : ∀ x ∈ (["abs", "int", "len", "max", "min", "repr", "list", "tuple", "all", "any", "isinstance", "range", "bool", "str"] : List Str), mg x = none
/-- a good context -/
structure Good (T : Tab) (shs : List Sh) (cl : Nat → List W → Sto → R W) (k : Nat) (c : Ck) (X : Cx) : Prop extends Okc c X where
  room : Room k X.A
  guards : X.A.guards = some []
  fns : Fns T shs cl k X.prog X.w X.K X.mg X.base

def glC (c : Ck) (x : Str) : Bool := decide (c.sc.names.lookup x = some .globalImplicit) && !(x == ("__debug__" : Str)) && decide (x ≠ "__name__")
def notStar : Expr → Bool
  | .Starred _ _ => false
  | _ => true
def notSlice : Expr → Bool
  | .Slice _ _ _ _ => false
  | _ => true
def notSet : Expr → Bool
  | .Set _ _ _ => false
  | _ => true
def noCall0 : Expr → Bool
  | .Call (.Name _ _) [] [] _ => false
  | _ => true
def notComp : Expr → Bool
  | .ListComp _ _ _ _ | .SetComp _ _ _ _ | .DictComp _ _ _ _ _ => false
  | _ => true
/-- its truth is looked at behind its value -/
def plainTest : Expr → Bool
  | .UnaryOp .Not _ _ | .BoolOp _ _ _ | .IfExp _ _ _ _ | .Compare _ _ _ _ => false
  | _ => true
def Bi.nm : Bi → Str
  | .abs => "abs"
  | .int => "int"
  | .len => "len"
  | .max2 => "max"
  | .min2 => "min"
  | .repr => "repr"
  | .list => "list"
  | .tuple => "tuple"
  | .all => "all"
  | .any => "any"
def Bm.nm : Bm → Str
  | .append => "append"
def Ty.cstr : Ty → Str
  | .list => "list"
  | .tuple => "tuple"
  | .int => "int"
  | .bool => "bool"
  | .str => "str"
mutual
/-- may stand as a test -/
def E.tst : E → Bool
  | .ife _ _ _ => false
  | .not a => a.tst
  | .ands es => E.tsts es
  | .ors es => E.tsts es
  | .gc e => e.tst
  | _ => true
def E.tsts : List E → Bool
  | [] => true
  | e :: es => e.tst && E.tsts es
end
def coverT (t : Tg) (own : List Nat) : Bool := t.own.all fun i => decide (i ∈ own)
/-- the names of a target -/
def ownsOf (N : List Str) (own : List Nat) : List (Str × Nat) := own.filterMap fun i => (N[i]?).map fun x => (x, i)
/-- the context of a comprehension's block -/
def Ck.blk (c : Ck) (scope : Scope) : Ck := ⟨c.N, relS scope c.sc, fun x => scope.names.lookup x == some .cell⟩
section
variable (T : Tab) (shs : List Sh)
mutual
def okE (c : Ck) : E → Expr → Bool
  | .v i, .Name x _ => decide (c.N[i]? = some x) && visC c.sc x && !(x == ("__debug__" : Str)) && !(x == ("__classdict__" : Str))
  | .non, .Constant .none _ _ => true
  | .bl b, .Constant (.bool b') _ _ => decide (b = b')
  | .int i, .Constant (.int i') _ _ => decide (i = i')
  | .str s, .Constant (.str s') _ _ => decide (s = s')
  | .tup es, .Tuple xs _ _ => okEs c es xs
  | .lst es, .List xs _ => okEs c es xs
  | .bin op a b, .BinOp x op' y _ => decide (op = op') && okE c a x && okE c b y
  | .neg a, .UnaryOp .USub x _ => okE c a x
  | .cmp op a b, .Compare x [op'] [y] _ => decide (op = op') && !behindInMarks op y && okE c a x && okE c b y
  | .ands es, .BoolOp .And xs _ => okEs c es xs
  | .ors es, .BoolOp .Or xs _ => okEs c es xs
  | .not a, .UnaryOp .Not x _ => okE c a x
  | .ife t a b, .IfExp x y z _ => okE c t x && t.tst && okE c a y && okE c b z
  | .ix a i, .Subscript x y _ => notSlice y && okE c a x && okE c i y
  | .sl a lo hi, .Subscript x (.Slice l h none _) _ => okE c a x && okO c lo l && okO c hi h
  | .call f es, .Call (.Name x _) xs [] _ => glC c x && (match T[f]? with
      | some d => decide (d.nm = x) && shs.any (fun sh => decide (sh.f = f) && decide (sh.n = es.length) && decide (sh.ks = []) && okPl (plainFrom 0 es.length) sh.pl)
      | none => false) && okEs c es xs
  | .callK f es ks pl, .Call (.Name x _) xs kws _ => glC c x && (match T[f]? with
      | some d => decide (d.nm = x) && shs.any (fun sh => decide (sh.f = f) && decide (sh.n = es.length) && decide (kws.map (·.arg) = sh.ks.map some) && okPl pl sh.pl)
      | none => false) && okEs c es xs && okKs c ks kws
  | .bi b es, .Call (.Name x _) (y :: xs) [] _ => decide (x = b.nm) && glC c x && okEs c es (y :: xs)
  | .isi t a, .Call (.Name x _) [y, .Name z _] [] _ => decide (x = "isinstance") && glC c x && decide (z = t.cstr) && glC c z && notStar y && okE c a y
  | .bm m o es, .Call (.Attribute x n ap) (y :: ys) [] cp => decide (n = m.nm) && noCall0 x && decide (ap.endLine = cp.line) && decide (ys.length < 20) && okE c o x && okEs c es (y :: ys)
  | .comp own el t s ifs [], .ListComp x [⟨y, z, is, as⟩] scope _ => decide (as = 0) && decide ((ownsOf c.N own).map (·.2) = own) && blkC c.N c.sc scope (ownsOf c.N own) && okSr c s z && okT (c.blk scope) t y && coverT t own && okIfs (c.blk scope) ifs is && okE (c.blk scope) el x
  | .gc e, x => okE c e x
  | _, _ => false
def okEs (c : Ck) : List E → List Expr → Bool
  | [], [] => true
  | e :: es, x :: xs => notStar x && okE c e x && okEs c es xs
  | _, _ => false
def okKs (c : Ck) : List E → List Keyword → Bool
  | [], [] => true
  | e :: es, ⟨_, x, _⟩ :: xs => okE c e x && okKs c es xs
  | _, _ => false
def okO (c : Ck) : Option E → Option Expr → Bool
  | none, none => true
  | some e, some x => okE c e x
  | _, _ => false
def okSr (c : Ck) : Sr → Expr → Bool
  | .e e, x => okE c e x && notSet x
  | .rng1 a, .Call (.Name x _) [y] [] _ => decide (x = "range") && glC c x && notStar y && okE c a y
  | .rng2 a b, .Call (.Name x _) [y, z] [] _ => decide (x = "range") && glC c x && notStar y && notStar z && okE c a y && okE c b z
  | _, _ => false
def okIfs (c : Ck) : List E → List Expr → Bool
  | [], [] => true
  | [e], [x] => okE c e x && e.tst
  | _, _ => false
end
end
end Mi

namespace Mi
open PySem PySem.Spec PyProof.Rows L2

section
variable (cl : Nat → List W → Sto → R W) (K : PySem.W.Frag)
def tE (e : E) : TE := fun σ H Q => ∃ L st r, SR K H L st ∧ SlOk K H L σ r ∧ Ans K H L Q (evE cl e r st)
def tEs (es : List E) : TA := fun σ H Q => ∃ L st r, SR K H L st ∧ SlOk K H L σ r ∧ AnsR (RVs K) K H L Q (evEs cl es r st)
def tAndsE (es : List E) : TE := fun σ H Q => ∃ L st r, SR K H L st ∧ SlOk K H L σ r ∧ Ans K H L Q (evAnds cl es r st)
def tOrsE (es : List E) : TE := fun σ H Q => ∃ L st r, SR K H L st ∧ SlOk K H L σ r ∧ Ans K H L Q (evOrs cl es r st)
def tO_ (o : Option E) : TO := fun σ H Q => ∃ L st r, SR K H L st ∧ SlOk K H L σ r ∧ AnsR (fun _ _ (a b : Option Int) => a = b) K H L Q (evO cl o r st)
def tIfs (es : List E) : TT := fun σ H Q => ∃ L st r, SR K H L st ∧ SlOk K H L σ r ∧ AnsR (fun _ _ (a b : Bool) => a = b) K H L Q (evIfs cl es r st)
end
section
variable {cl : Nat → List W → Sto → R W} {K : PySem.W.Frag} {H : Hp} {L : List Addr} {st : Sto} {σ : L2.St} {r : Sl}
/-- a part first, then the rest -/
theorem tE_bind {e : E} {β : Type} {γ : Type} {rel : Hp → List Addr → γ → β → Prop} {Q : γ → Hp → Prop} {f : W → Sto → R β} {P : VK} (hs : SR K H L st) (hr : SlOk K H L σ r) (h : AnsR rel K H L Q ((evE cl e r st).bind f))
    (k : ∀ v w H1 L1 st1, SR K H1 L1 st1 → SlOk K H1 L1 σ r → Step H L H1 L1 → RV K H1 L1 v w → AnsR rel K H1 L1 Q (f w st1) → P v H1) : tE cl K e σ H P := by
  refine ⟨L, st, r, hs, hr, ?_⟩
  cases e1 : evE cl e r st with
  | stk => rw [e1] at h; exact h
  | ok w st1 =>
    rw [e1] at h
    exact fun v H1 L1 h1 h2 h3 => k v w H1 L1 st1 h1 (hr.mono h2.toAhead) h2 h3 (h.step h2)
theorem tEs_bind {es : List E} {β : Type} {γ : Type} {rel : Hp → List Addr → γ → β → Prop} {Q : γ → Hp → Prop} {f : List W → Sto → R β} {P : List V → Hp → Prop} (hs : SR K H L st) (hr : SlOk K H L σ r) (h : AnsR rel K H L Q ((evEs cl es r st).bind f))
    (k : ∀ v w H1 L1 st1, SR K H1 L1 st1 → SlOk K H1 L1 σ r → Step H L H1 L1 → RVs K H1 L1 v w → AnsR rel K H1 L1 Q (f w st1) → P v H1) : tEs cl K es σ H P := by
  refine ⟨L, st, r, hs, hr, ?_⟩
  cases e1 : evEs cl es r st with
  | stk => rw [e1] at h; exact h
  | ok w st1 =>
    rw [e1] at h
    exact fun v H1 L1 h1 h2 h3 => k v w H1 L1 st1 h1 (hr.mono h2.toAhead) h2 h3 (h.step h2)
theorem tO_bind {o : Option E} {β : Type} {γ : Type} {rel : Hp → List Addr → γ → β → Prop} {Q : γ → Hp → Prop} {f : Option Int → Sto → R β} {P : Option Int → Hp → Prop} (hs : SR K H L st) (hr : SlOk K H L σ r) (h : AnsR rel K H L Q ((evO cl o r st).bind f))
    (k : ∀ v H1 L1 st1, SR K H1 L1 st1 → SlOk K H1 L1 σ r → Step H L H1 L1 → AnsR rel K H1 L1 Q (f v st1) → P v H1) : tO_ cl K o σ H P := by
  refine ⟨L, st, r, hs, hr, ?_⟩
  cases e1 : evO cl o r st with
  | stk => rw [e1] at h; exact h
  | ok w st1 =>
    rw [e1] at h
    intro v H1 L1 h1 h2 h3
    subst h3
    exact k _ H1 L1 st1 h1 (hr.mono h2.toAhead) h2 (h.step h2)
/-- a truth first, then the rest -/
theorem tE_bool {e : E} {β : Type} {γ : Type} {rel : Hp → List Addr → γ → β → Prop} {Q : γ → Hp → Prop} {f : Bool → Sto → R β} {P : Bool → Hp → Prop} (hs : SR K H L st) (hr : SlOk K H L σ r) (h : AnsR rel K H L Q (boolR (evE cl e r st) f))
    (k : ∀ b H1 L1 st1, SR K H1 L1 st1 → SlOk K H1 L1 σ r → Step H L H1 L1 → AnsR rel K H1 L1 Q (f b st1) → P b H1) : tB (tE cl K e) σ H P := by
  refine ⟨L, st, r, hs, hr, ?_⟩
  cases e1 : evE cl e r st with
  | stk => rw [e1] at h; exact h
  | ok w st1 =>
    rw [e1] at h
    cases w with
    | bl b =>
      intro v H1 L1 h1 h2 h3
      cases h3
      exact ⟨b, rfl, k b H1 L1 st1 h1 (hr.mono h2.toAhead) h2 (h.step h2)⟩
    | _ => exact h.elim
end

theorem notStar_each {x : Expr} (h : notStar x = true) (xs : List Expr) (env : Env) : starEach (x :: xs) env = (false, eval x env) :: starEach xs env := by
  cases x <;> first | rfl | (simp [notStar] at h)
theorem plainIx {y : Expr} (h : notSlice y = true) : PlainIx y := by
  intro o i
  cases y <;> first | rfl | (simp [notSlice] at h)
theorem base_of {x : Expr} (h : noCall0 x = true) (n : Str) (env : Env) : attributeBase x n env (eval x env) = eval x env := by
  unfold attributeBase
  split
  · simp [noCall0] at h
  · rfl
theorem ownsOf_ok {N : List Str} {own : List Nat} : ∀ p ∈ ownsOf N own, N[p.2]? = some p.1 := by
  intro p hp
  unfold ownsOf at hp
  rw [List.mem_filterMap] at hp
  obtain ⟨i, _, e⟩ := hp
  cases e1 : N[i]? with
  | none => simp [e1] at e
  | some x => simp [e1] at e; subst e; exact e1
section
variable {T : Tab} {shs : List Sh}
theorem okEs_star {c : Ck} : ∀ {es : List E} {xs : List Expr}, okEs T shs c es xs = true → ∀ (pos : Pos) (env : Env), (backTo pos (starEach xs env)).any (·.1) = false ∧ (backTo pos (starEach xs env)).all (fun x => !x.1) = true ∧ xs.length = es.length
  | [], [], _, _, _ => ⟨rfl, rfl, rfl⟩
  | [], _ :: _, h, _, _ => by simp [okEs] at h
  | _ :: _, [], h, _, _ => by simp [okEs] at h
  | e :: es, x :: xs, h, pos, env => by
    simp [okEs] at h
    obtain ⟨h1, h2, h3⟩ := okEs_star h.2 pos env
    rw [notStar_each h.1.1]
    refine ⟨?_, ?_, by simp [h3]⟩
    · show (false || (backTo pos (starEach xs env)).any (·.1)) = false
      rw [h1]; rfl
    · show (true && (backTo pos (starEach xs env)).all (fun x => !x.1)) = true
      rw [h2]; rfl
theorem glC_ok {c : Ck} {X : Cx} (o : Okc c X) {x : Str} (h : glC c x = true) : Gl X x ∧ (x == ("__debug__" : Str)) = false ∧ x ≠ "__name__" := by
  simp only [glC, Bool.and_eq_true, decide_eq_true_eq, Bool.not_eq_true'] at h
  refine ⟨?_, h.1.2, h.2⟩
  show X.env.scope.names.lookup x = _
  rw [o.sc]; exact h.1.1
end

def tCallS (sp : List V → List V → Hp → VK → Prop) (t tk : TA) : TE := fun σ H Q => t σ H fun vs H1 => tk σ H1 fun zs H2 => sp vs zs H2 Q
section
variable {X : Cx} {k : Nat} {f : Addr} {fd : FuncData} {ps : List Str} {sh : Sh} {c : List W → Sto → R W} {x : Str} {p pos : Pos} {es : List Expr} {kws : List Keyword} {t tk : TA}
def spS (K : PySem.W.Frag) (c : List W → Sto → R W) (sh : Sh) : List V → List V → Hp → VK → Prop := fun vs zs H Q => vs.length = sh.n ∧ zs.length = sh.ks.length ∧ ∃ L st ws ys xs, SR K H L st ∧ RVs K H L vs ws ∧ RVs K H L zs ys ∧ Pl.all ws ys sh.pl = some xs ∧ Ans K H L Q (c xs st)
theorem run_sh {pins : List (Addr × Obj)} {σ : L2.St} {H : Hp} {s : Shared} {Q : VK} {us ws : List Value} {vs zs : List V} (F : FnG X.prog X.w X.K X.mg X.base CX0 k f fd ps (spI X.K c)) (B : Bnd X.K fd ps sh) (hr : Room k X.A) (hg : X.A.guards = some [])
    (I : Inv X pins σ H s) (r1 : Vals vs us) (r2 : Vals zs ws) (h : spS X.K c sh vs zs H Q) : wpAny (model X.prog X.w) X.A (call (.ref f) us (sh.ks.zip ws)) (EP X pins σ Q) X.xe s := by
  obtain ⟨l1, l2, L, st, wv, wz, xw, hs, h1, h2, h3, h⟩ := h
  obtain ⟨xs, fs, b1, b2, b3, b4⟩ := B.go s us ws vs zs I.kIn (r1.length.symm.trans l1) (r2.length.symm.trans l2) r1 r2
  exact F.go hr hg pass0 I b1 b2 b3 ⟨L, st, xw, hs, b4 H L wv wz xw h1 h2 h3, h⟩
theorem kw_all (kws : List Keyword) (pos : Pos) (env : Env) {ks : List Str} (h : kws.map (·.arg) = ks.map some) : (backToKw pos (keywordEach kws env)).all (·.1.isSome) = true ∧ (backToKw pos (keywordEach kws env)).filterMap (·.1) = ks ∧ (backToKw pos (keywordEach kws env)).any (·.1.isNone) = false := by
  induction kws generalizing ks with
  | nil =>
    cases ks with
    | nil => exact ⟨rfl, rfl, rfl⟩
    | cons _ _ => simp at h
  | cons kw kws ih =>
    cases ks with
    | nil => simp at h
    | cons k ks =>
      simp only [List.map_cons, List.cons.injEq] at h
      obtain ⟨h1, h2, h3⟩ := ih h.2
      obtain ⟨arg, value, kpos⟩ := kw
      simp only at h
      rw [h.1]
      refine ⟨?_, ?_, ?_⟩
      · show (true && (backToKw pos (keywordEach kws env)).all (·.1.isSome)) = true
        rw [h1]; rfl
      · show k :: (backToKw pos (keywordEach kws env)).filterMap (·.1) = _
        rw [h2]
      · show (false || (backToKw pos (keywordEach kws env)).any (·.1.isNone)) = false
        rw [h3]; rfl
theorem pe_sh {e : Expr} (F : FnG X.prog X.w X.K X.mg X.base CX0 k f fd ps (spI X.K c)) (B : Bnd X.K fd ps sh) (hr : Room k X.A) (hg : X.A.guards = some []) (hgl : Gl X x) (hm : X.mg x = some (.ref f)) (hk : PySem.W.keepIn X.K (.ref f) = true) (ha : PA X (e :: es) t) (hkw : PK X kws tk)
    (hall : kws.map (·.arg) = sh.ks.map some) (hdb : (x == ("__debug__" : Str)) = false) (he : starEach (e :: es) X.env = (false, eval e X.env) :: starEach es X.env) (hpl : (backTo pos (starEach (e :: es) X.env)).any (·.1) = false) :
    PE X (.Call (.Name x p) (e :: es) kws pos) (tCallS (spS X.K c sh) t tk) := by
  obtain ⟨k1, k2, k3⟩ := kw_all kws pos X.env hall
  refine ⟨fun pins s σ H Q I h => wpAny_Call_Name_kw (ld_glob I hgl hm ?_ hdb)⟩
  refine PySem.W.callWith_KW (h₀ := X.base) I.ok.mod.kin hk k1 (thn (ha.run pos pins s σ H _ I h) fun us s1 ⟨vs, H1, I1, r, q⟩ => ?_) (by rw [hpl, k3]; rfl) he
  refine thn (hkw.run pos pins s1 σ H1 _ I1 q) fun ws s2 ⟨zs, H2, I2, rz, q2⟩ => ⟨I2.kIn, ?_⟩
  rw [k2]
  exact run_sh F B hr hg I2 r rz q2
theorem pe_sh0 (F : FnG X.prog X.w X.K X.mg X.base CX0 k f fd ps (spI X.K c)) (B : Bnd X.K fd ps sh) (hr : Room k X.A) (hg : X.A.guards = some []) (hgl : Gl X x) (hm : X.mg x = some (.ref f)) (hk : PySem.W.keepIn X.K (.ref f) = true) (hkw : PK X kws tk)
    (hall : kws.map (·.arg) = sh.ks.map some) (hdb : (x == ("__debug__" : Str)) = false) :
    PE X (.Call (.Name x p) [] kws pos) (tCallS (spS X.K c sh) tNil tk) := by
  obtain ⟨k1, k2, k3⟩ := kw_all kws pos X.env hall
  refine ⟨fun pins s σ H Q I h => wpAny_Call_Name_kw (ld_glob I hgl hm ?_ hdb)⟩
  refine PySem.W.callWith_KW0 (h₀ := X.base) I.ok.mod.kin hk k1 (thn (hkw.run pos pins s σ H _ I h) fun ws s2 ⟨zs, H2, I2, rz, q2⟩ => ⟨I2.kIn, ?_⟩) (by rw [k3]; rfl)
  rw [k2]
  exact run_sh F B hr hg I2 .nil rz q2
end

theorem fv_cases (b : Bi) : (∃ id, b.fv = .builtin id ∧ bootBuiltins b.nm = some (.builtin id)) ∨ ∃ T, b.fv = .type T ∧ bootBuiltins b.nm = some (.type T) := by
  cases b
  · exact .inl ⟨_, rfl, by decide +kernel⟩
  · exact .inr ⟨_, rfl, by decide +kernel⟩
  · exact .inl ⟨_, rfl, by decide +kernel⟩
  · exact .inl ⟨_, rfl, by decide +kernel⟩
  · exact .inl ⟨_, rfl, by decide +kernel⟩
  · exact .inl ⟨_, rfl, by decide +kernel⟩
  · exact .inr ⟨_, rfl, by decide +kernel⟩
  · exact .inr ⟨_, rfl, by decide +kernel⟩
  · exact .inl ⟨_, rfl, by decide +kernel⟩
  · exact .inl ⟨_, rfl, by decide +kernel⟩
theorem free_bi (b : Bi) : b.nm ∈ (["abs", "int", "len", "max", "min", "repr", "list", "tuple", "all", "any", "isinstance", "range", "bool", "str"] : List Str) := by
  cases b <;> simp [Bi.nm]
theorem pe_bi {X : Cx} (b : Bi) {p pos : Pos} {e : Expr} {es : List Expr} {t : TA} (hc : X.calm = true) (hg : X.A.guards = some []) (hu : X.A.units + 66 < cLine) (hgl : Gl X b.nm) (hm : X.mg b.nm = none) (ha : PA X (e :: es) t) (h1 : (b.nm == ("__debug__" : Str)) = false) (h2 : b.nm ≠ "__name__")
    (he : starEach (e :: es) X.env = (false, eval e X.env) :: starEach es X.env) (hpl : (backTo pos (starEach es X.env)).any (·.1) = false) : PE X (.Call (.Name b.nm p) (e :: es) [] pos) (tCB (rBi X.K b) t) := by
  have hr := cr_biW (X := X) hc hg hu b
  rcases fv_cases b with ⟨id, e1, e2⟩ | ⟨T, e1, e2⟩
  · rw [e1] at hr
    exact pe_callB hr hgl hm e2 ha h2 h1 he hpl
  · rw [e1] at hr
    exact pe_callTy hr hgl hm e2 ha h2 h1 he hpl

structure SrcAt (K : PySem.W.Frag) (J : It) (chk : Chk) (ws : List W) (H0 : Hp) (L0 : List Addr) : Prop where
  go : ∀ (i : Nat) (w : W) H L st, Ahead H0 L0 H L → SR K H L st → chk.ok st = true → ws[i]? = some w → J.go i H ∧ ∀ x H', J.yld i H x H' → SR K H' L st ∧ RV K H' L x w ∧ Step H L H' L
  stop : ∀ (i : Nat) H L st, Ahead H0 L0 H L → SR K H L st → chk.ok st = true → ws.length ≤ i → J.stop i H
def AnsI (K : PySem.W.Frag) (H : Hp) (L : List Addr) (R : It → Hp → Prop) : Mi.R (Chk × List W) → Prop
  | .stk => False
  | .ok cw st' => ∀ J H' L', SR K H' L' st' → Step H L H' L' → SrcAt K J cw.1 cw.2 H' L' → R J H'
def tSr (cl : Nat → List W → Sto → R W) (K : PySem.W.Frag) (s : Sr) : TI := fun σ H R => ∃ L st r, SR K H L st ∧ SlOk K H L σ r ∧ AnsI K H L R (evSr cl s r st)
section
variable {K : PySem.W.Frag} {H : Hp} {L : List Addr} {st : Sto}
theorem AnsI.step {H1 : Hp} {L1 : List Addr} {R : It → Hp → Prop} {x : Mi.R (Chk × List W)} (h : AnsI K H L R x) (s : Step H L H1 L1) : AnsI K H1 L1 R x := by
  cases x with
  | stk => exact h
  | ok w st' => exact fun v H' L' h1 h2 h3 => h v H' L' h1 (s.trans h2) h3
theorem src_tup {a : Addr} {vs : List V} {ws : List W} (h1 : SqT K H a vs) (h2 : RVs K H L vs ws) : SrcAt K (Itt K a) .no ws H L where
  go := fun i w H1 L1 st1 s hs _ hw => by
    obtain ⟨v, hv, _⟩ := h2.get hw
    refine ⟨⟨vs, v, Mi.SqT.mono s h1, hv⟩, fun x H' y => ?_⟩
    obtain ⟨rfl, y⟩ := y
    have e := y vs (Mi.SqT.mono s h1)
    rw [hv] at e
    cases e
    obtain ⟨v', hv', r⟩ := (h2.mono s).get hw
    rw [hv] at hv'
    cases hv'
    exact ⟨hs, r, Step.refl _ _⟩
  stop := fun i H1 L1 st1 s hs _ hw => ⟨vs, Mi.SqT.mono s h1, by rw [h2.length]; exact hw⟩
theorem Chk.cell_ok {n : Nat} {c : Cell} {st : Sto} (h : (Chk.cell n c).ok st = true) : st[n]? = some c := by
  simp only [Chk.ok] at h
  split at h
  · rename_i c' e1
    rw [e1, Cell.beq_eq h]
  · cases h
theorem Chk.cell_of {n : Nat} {c : Cell} {st : Sto} (h : st[n]? = some c) : (Chk.cell n c).ok st = true := by
  simp only [Chk.ok, h, Cell.beq_refl]
theorem src_list {n : Nat} {a : Addr} {ws : List W} (h1 : L[n]? = some a) : SrcAt K (Itl K a) (.cell n (.lst ws)) ws H L where
  go := fun i w H1 L1 st1 s hs hc hw => by
    obtain ⟨vs, e1, r1⟩ := hs.lst (s.get h1) (Chk.cell_ok hc)
    obtain ⟨v, hv, rv⟩ := r1.get hw
    refine ⟨⟨vs, v, SqL.of e1, hv⟩, fun x H' y => ?_⟩
    obtain ⟨rfl, y⟩ := y
    have e := y vs (SqL.of e1)
    rw [hv] at e
    cases e
    exact ⟨hs, rv, Step.refl _ _⟩
  stop := fun i H1 L1 st1 s hs hc hw => by
    obtain ⟨vs, e1, r1⟩ := hs.lst (s.get h1) (Chk.cell_ok hc)
    exact ⟨vs, SqL.of e1, by rw [r1.length]; exact hw⟩
theorem src_range {lo : Int} {n : Nat} : SrcAt K (Itr lo n) .no ((List.range n).map fun (k : Nat) => W.int (lo + (k : Int))) H L where
  go := fun i w H1 L1 st1 s hs hc hw => by
    rw [List.getElem?_map, Option.map_eq_some_iff] at hw
    obtain ⟨k, hk, rfl⟩ := hw
    obtain ⟨hk1, hk2⟩ := List.getElem?_eq_some_iff.mp hk
    simp at hk1 hk2
    subst hk2
    refine ⟨hk1, fun x H' y => ?_⟩
    obtain ⟨rfl, rfl⟩ := y
    exact ⟨hs, .int _, Step.refl _ _⟩
  stop := fun i H1 L1 st1 s hs hc hw => by
    simp at hw
    exact hw
end
section
variable {X : Cx} {tg : Expr}
/-- a list or a tuple, whichever it is -/
theorem pi_seq {l : Expr} {tl : TE} (hl : PE X l tl) : PI X tg l (fun σ H R => tl σ H fun x H1 => ∃ a, x = .ref a ∧ (((∃ xs, SqL X.K H1 a xs) ∧ R (Itl X.K a) H1) ∨ ((∃ xs, SqT X.K H1 a xs) ∧ R (Itt X.K a) H1))) := by
  refine ⟨fun pins s σ H R I h => thn (hl.run pins s σ H _ I h) fun v s1 ⟨x, H1, I1, r1, q1⟩ => ?_⟩
  obtain ⟨a, rfl, q⟩ := q1
  cases r1
  have nf : ∀ b ∈ [s1.heap.objs.size], FpOk X pins H1 b := fun b hb => by
    rw [List.mem_singleton.mp hb]
    exact I1.fpOk (Nat.le_refl _) (I1.hok.fresh (Nat.le_refl _))
  rcases q with ⟨⟨xs, hq⟩, q⟩ | ⟨⟨xs, hq⟩, q⟩
  · obtain ⟨its, rv, p, hz⟩ := I1.list hq
    exact wpAny_pyIter_list p.isList ⟨_, [s1.heap.objs.size], _, _, H1, rfl, I1.kept (t' := s1.toks) fun b o e => Heap.get?_push_of_some _ e, turn_list a _, ⟨_, Heap.get?_push_size _ rfl, rfl, rfl⟩, nf, q⟩
  · obtain ⟨its, rv, p, hz⟩ := I1.tuple hq
    exact wpAny_pyIter_tuple (show s1.heap.IsTuple a its.toArray from p) ⟨_, [s1.heap.objs.size], _, _, H1, rfl, I1.kept (t' := s1.toks) fun b o e => Heap.get?_push_of_some _ e, turn_tuple a _, ⟨_, Heap.get?_push_size _ rfl, rfl, rfl⟩, nf, q⟩
end
end Mi

namespace Mi
open PySem PySem.Spec PyProof.Rows L2

section
variable {cl : Nat → List W → Sto → R W} {K : PySem.W.Frag}
theorem bind_ok_iff {α β : Type} {x : R α} {f : α → Sto → R β} {b : β} {st : Sto} (h : x.bind f = .ok b st) : ∃ a s, x = .ok a s ∧ f a s = .ok b st := by
  cases x with
  | stk => simp [R.bind] at h
  | ok a s => exact ⟨a, s, rfl, h⟩
theorem boolR_ok {α : Type} {x : R W} {f : Bool → Sto → R α} {b : α} {st : Sto} (h : boolR x f = .ok b st) : ∃ c s, x = .ok (.bl c) s ∧ f c s = .ok b st := by
  cases x with
  | stk => simp [boolR] at h
  | ok a s =>
    cases a with
    | bl c => exact ⟨c, s, rfl, h⟩
    | _ => simp [boolR] at h
theorem lc_read {own : List Nat} {el : E} {t : Tg} {s : Sr} {ifs : List E} (hcov : coverT t own = true) (σ : L2.St) (H : Hp) (Q : VK) (h : tE cl K (.comp own el t s ifs []) σ H Q) :
    tLc (tSr cl K s) (tT K t) (tIfs cl K ifs) (tE cl K el) own σ H Q := by
  obtain ⟨L, st, r, hs, hr, h⟩ := h
  simp only [evE, evGs] at h
  refine ⟨L, st, r, hs, hr, ?_⟩
  cases e1 : evSr cl s r st with
  | stk => rw [e1] at h; exact h
  | ok cw st1 =>
    rw [e1] at h
    simp only [R.bind_ok] at h
    intro J H1 L1 hs1 s1 src D hD
    generalize hf : (fun (w : W) (st : Sto) (acc : List W) => withT t w (unset r own) (fun r' => (evIfs cl ifs r' st).bind fun b st => if b = true then (evE cl el r' st).bind fun w st => if acc.length < sizeLine then R.ok (acc ++ [w]) st else R.stk else R.ok acc st) R.stk) = f at h
    cases e2 : loopC cw.1 f cw.2 st1 [] with
    | stk => rw [e2] at h; exact h.elim
    | ok accF stF =>
      rw [e2] at h
      simp only [R.bind_ok] at h
      have hr1 : SlOk K H1 L1 σ r := hr.mono s1.toAhead
      refine ⟨fun i m H2 => m = cw.2.length - i ∧ i ≤ cw.2.length ∧ ∃ L2 st2 acc vacc, SR K H2 L2 st2 ∧ Step H1 L1 H2 L2 ∧ D ∉ L2 ∧ H2 D = some (.lst vacc) ∧ RVs K H2 L2 vacc acc ∧ loopC cw.1 f (cw.2.drop i) st2 acc = .ok accF stF,
        ⟨cw.2.length, by simp, Nat.zero_le _, L1, st1, [], [], hs1.laid hD, Step.laid hD, hs1.new hD, upd_same, .nil, by simpa using e2⟩, ?_⟩
      rintro i m H2 ⟨rfl, hi, L2, st2, acc, vacc, hs2, s2, hD2, hv2, rv2, el2⟩
      by_cases hlt : i < cw.2.length
      · right
        rw [List.drop_eq_getElem_cons hlt, loopC] at el2
        split at el2
        · rename_i hck
          obtain ⟨acc', st', ef, el3⟩ := bind_ok_iff el2
          obtain ⟨g1, g2⟩ := src.go i _ H2 L2 st2 s2.toAhead hs2 hck (List.getElem?_eq_getElem hlt)
          refine ⟨g1, fun H' => (i + 1 ≤ cw.2.length ∧ ∃ L2 st2 acc vacc, SR K H' L2 st2 ∧ Step H1 L1 H' L2 ∧ D ∉ L2 ∧ H' D = some (.lst vacc) ∧ RVs K H' L2 vacc acc ∧ loopC cw.1 f (cw.2.drop (i + 1)) st2 acc = .ok accF stF), fun H' q => ⟨cw.2.length - (i + 1), by omega, rfl, q.1, q.2⟩, fun x H3 y => ?_⟩
          obtain ⟨hs3, rx, s3⟩ := g2 x H3 y
          have hv3 : H3 D = some (.lst vacc) := s3.keep D _ hv2 hD2
          rw [← hf] at ef
          simp only [withT] at ef
          split at ef
          · rename_i r' eb
            refine ⟨L2, st2, unset r own, _, r', hs3, (hr1.mono (s2.trans s3).toAhead).unset own, rx, eb, fun σ2 hr2 hbut => ⟨hbut.wipe fun j hj => ?_, ?_⟩⟩
            · have := List.all_eq_true.mp hcov j hj
              simpa using this
            · obtain ⟨b, st3, eb1, ef⟩ := bind_ok_iff ef
              refine ⟨L2, st2, r', hs3, hr2, ?_⟩
              rw [eb1]
              intro b' H4 L4 hs4 s4 hbb
              subst hbb
              have hD4 : D ∉ L4 := fun hm => by
                have := s4.fresh D hm hD2
                rw [hv3] at this; cases this
              have hv4 : H4 D = some (.lst vacc) := s4.keep D _ hv3 hD2
              cases b' with
              | false =>
                simp only [Bool.false_eq_true, if_false] at ef ⊢
                cases ef
                exact ⟨hlt, L4, _, _, vacc, hs4, (s2.trans s3).trans s4, hD4, hv4, rv2.mono (s3.trans s4).toAhead, el3⟩
              | true =>
                simp only [if_true] at ef ⊢
                obtain ⟨y, st5, ey, ef⟩ := bind_ok_iff ef
                split at ef
                · rename_i hlen
                  cases ef
                  refine ⟨L4, st3, r', hs4, hr2.mono s4.toAhead, ?_⟩
                  rw [ey]
                  intro yv H5 L5 hs5 s5 ry
                  have hD5 : D ∉ L5 := fun hm => by
                    have := s5.fresh D hm hD4
                    rw [hv4] at this; cases this
                  have hv5 : H5 D = some (.lst vacc) := s5.keep D _ hv4 hD4
                  have s15 := ((s2.trans s3).trans s4).trans s5
                  have ah := Ahead.side (L := L5) (ys := vacc ++ [yv]) hv5
                  exact ⟨vacc, hv5, by rw [rv2.length]; exact hlen, hlt, L5, _, _, vacc ++ [yv], hs5.side hD5 hv5, s15.side hD hv5, hD5, upd_same,
                    ((rv2.mono ((s3.trans s4).trans s5).toAhead).append (.cons ry .nil)).mono ah, el3⟩
                · cases ef
          · cases ef
        · cases el2
      · left
        have e : i = cw.2.length := by omega
        subst e
        rw [List.drop_length, loopC] at el2
        split at el2
        · rename_i hck
          cases el2
          refine ⟨src.stop _ H2 L2 _ s2.toAhead hs2 hck (Nat.le_refl _), ?_⟩
          refine h (.ref D) H2 (L2 ++ [D]) (hs2.more hD2 ⟨vacc, hv2, rv2.mono (Ahead.cell H2 L2 D)⟩) (s1.trans (.mk' ?_ (fun a ha hn => ?_) s2.tups s2.frzs s2.keep)) (.ref ?_)
          · obtain ⟨M, e⟩ := s2.more
            exact ⟨M ++ [D], by rw [e, List.append_assoc]⟩
          · rcases List.mem_append.mp ha with ha | ha
            · exact s2.fresh a ha hn
            · rw [List.mem_singleton.mp ha]; exact hD
          · rw [← hs2.len, List.getElem?_append_right (Nat.le_refl _)]
            simp
        · cases el2
end

theorem PI.weak' {X : Cx} {tg e : Expr} {t t' : TI} (h : PI X tg e t) (hw : ∀ σ H R, t' σ H R → t σ H R) : PI X tg e t' := PI.weak h hw
theorem Good.blk {T : Tab} {shs : List Sh} {cl : Nat → List W → Sto → R W} {k : Nat} {c : Ck} {X : Cx} (g : Good T shs cl k c X) (scope : Scope) (s : Shared) (H : Hp) (C : Addr) (cs : List (Str × Addr)) (fp : List Addr) :
    Good T shs cl k (c.blk scope) (X.blk s H scope (compEnvC scope cs C X.env) fp) where
  N := g.N
  nd := g.nd
  sc := by
    show relS scope X.env.scope = _
    rw [g.sc]; rfl
  fn := fun x h => h
  calm := g.calm
  room := g.room
  guards := g.guards
  fns := g.fns
theorem sh_of {T : Tab} {shs : List Sh} {cl : Nat → List W → Sto → R W} {k : Nat} {c : Ck} {X : Cx} (g : Good T shs cl k c X) {f : Nat} {x : Str} {P : Sh → Bool} (h : (match T[f]? with
      | some d => decide (d.nm = x) && shs.any (fun sh => decide (sh.f = f) && P sh)
      | none => false) = true) : ∃ (sh : Sh) (a : Addr) (fd : FuncData) (ps : List Str), P sh = true ∧ X.mg x = some (.ref a) ∧ PySem.W.keepIn X.K (.ref a) = true ∧ FnG X.prog X.w X.K X.mg X.base CX0 k a fd ps (spI X.K (cl f)) ∧ Bnd X.K fd ps sh := by
  cases e : T[f]? with
  | none => rw [e] at h; cases h
  | some d =>
    rw [e] at h
    simp only [Bool.and_eq_true, decide_eq_true_eq, List.any_eq_true] at h
    obtain ⟨h1, sh, h2, h3, h4⟩ := h
    obtain ⟨a, fd, q1, q2, q3, q4⟩ := g.fns.fn f d e
    exact ⟨sh, a, fd, d.ps, h4, by rw [← h1]; exact q1, q2, q3, q4 sh h2 h3⟩
section
variable {T : Tab} {shs : List Sh}
theorem okEs_head {c : Ck} {es : List E} {y : Expr} {ys : List Expr} (h : okEs T shs c es (y :: ys) = true) (env : Env) : starEach (y :: ys) env = (false, eval y env) :: starEach ys env := by
  cases es with
  | nil => simp [okEs] at h
  | cons e es =>
    simp [okEs] at h
    exact notStar_each h.1.1 _ _
theorem okKs_len {c : Ck} : ∀ {es : List E} {xs : List Keyword}, okKs T shs c es xs = true → es.length = xs.length
  | [], [], _ => rfl
  | [], _ :: _, h => by simp [okKs] at h
  | _ :: _, [], h => by simp [okKs] at h
  | e :: es, ⟨_, x, _⟩ :: xs, h => by
    simp [okKs] at h
    simp [okKs_len h.2]
theorem okSr_fold {c : Ck} {s : Sr} {x : Expr} (h : okSr T shs c s x = true) (env : Env) (v : Value) : foldedSetIterable x env v = pure v := by
  cases s with
  | e e =>
    simp [okSr] at h
    cases x <;> first | rfl | (simp [notSet] at h; done)
  | rng1 a => cases x <;> first | rfl | (simp [okSr] at h; done)
  | rng2 a b => cases x <;> first | rfl | (simp [okSr] at h; done)
end
theorem PO.weak {X : Cx} {e : Option Expr} {t t' : TO} (h : PO X e t) (hw : ∀ σ H Q, t' σ H Q → t σ H Q) : PO X e t' := ⟨fun pins s σ H Q I q => h.run pins s σ H Q I (hw _ _ _ q)⟩
theorem PK.weak {X : Cx} {e : List Keyword} {t t' : TA} (h : PK X e t) (hw : ∀ σ H Q, t' σ H Q → t σ H Q) : PK X e t' := ⟨fun pos pins s σ H Q I q => h.run pos pins s σ H Q I (hw _ _ _ q)⟩
theorem PTs.weak {X : Cx} {e : List Expr} {t t' : TT} (h : PTs X e t) (hw : ∀ σ H Q, t' σ H Q → t σ H Q) : PTs X e t' := ⟨fun pins s σ H Q I q => h.run pins s σ H Q I (hw _ _ _ q)⟩
section
variable {cl : Nat → List W → Sto → R W} {K : PySem.W.Frag} {H : Hp} {L : List Addr} {st : Sto} {σ : L2.St} {r : Sl}
theorem evEs_len : ∀ {es : List E} {r : Sl} {st : Sto} {ws : List W} {st' : Sto}, evEs cl es r st = .ok ws st' → ws.length = es.length
  | [], r, st, ws, st', h => by
    simp [evEs] at h
    obtain ⟨rfl, _⟩ := h
    rfl
  | e :: es, r, st, ws, st', h => by
    rw [evEs] at h
    obtain ⟨w, s1, e1, h⟩ := bind_ok_iff h
    obtain ⟨ws2, s2, e2, h⟩ := bind_ok_iff h
    cases h
    simp [evEs_len e2]
theorem tEs_bind' {es : List E} {β : Type} {γ : Type} {rel : Hp → List Addr → γ → β → Prop} {Q : γ → Hp → Prop} {f : List W → Sto → R β} {P : List V → Hp → Prop} (hs : SR K H L st) (hr : SlOk K H L σ r) (h : AnsR rel K H L Q ((evEs cl es r st).bind f))
    (k : ∀ v w H1 L1 st1, SR K H1 L1 st1 → SlOk K H1 L1 σ r → Step H L H1 L1 → RVs K H1 L1 v w → w.length = es.length → AnsR rel K H1 L1 Q (f w st1) → P v H1) : tEs cl K es σ H P := by
  refine ⟨L, st, r, hs, hr, ?_⟩
  cases e1 : evEs cl es r st with
  | stk => rw [e1] at h; exact h
  | ok w st1 =>
    rw [e1] at h
    exact fun v H1 L1 h1 h2 h3 => k v w H1 L1 st1 h1 (hr.mono h2.toAhead) h2 h3 (evEs_len e1) (h.step h2)
theorem tE_bindI {e : E} {R : It → Hp → Prop} {f : W → Sto → Mi.R (Chk × List W)} {P : VK} (hs : SR K H L st) (hr : SlOk K H L σ r) (h : AnsI K H L R ((evE cl e r st).bind f))
    (k : ∀ v w H1 L1 st1, SR K H1 L1 st1 → SlOk K H1 L1 σ r → Step H L H1 L1 → RV K H1 L1 v w → AnsI K H1 L1 R (f w st1) → P v H1) : tE cl K e σ H P := by
  refine ⟨L, st, r, hs, hr, ?_⟩
  cases e1 : evE cl e r st with
  | stk => rw [e1] at h; exact h
  | ok w st1 =>
    rw [e1] at h
    exact fun v H1 L1 h1 h2 h3 => k v w H1 L1 st1 h1 (hr.mono h2.toAhead) h2 h3 (h.step h2)
end
section
variable {T : Tab} {shs : List Sh} {cl : Nat → List W → Sto → R W} {k : Nat}
theorem pk_nil' {X : Cx} (K : PySem.W.Frag) : PK X [] tNil := pk_nil
mutual
theorem sE : ∀ (e : E) {c : Ck} {X : Cx} (g : Good T shs cl k c X) {x : Expr}, okE T shs c e x = true → PE X x (tE cl X.K e)
  | .v i, c, X, g, x, h => by
    cases x <;> try (simp [okE] at h; done)
    simp [okE] at h
    obtain ⟨⟨⟨h1, h2⟩, h3⟩, h4⟩ := h
    refine PE.weak (pe_var (i := i) (by rw [g.N]; exact h1) (by rw [g.sc]; exact visC_ok h2) (by simpa using h3) (by simpa using h4)) fun σ H Q q => ?_
    obtain ⟨L, st, r, hs, hr, ha⟩ := q
    simp only [evE] at ha
    split at ha
    · rename_i w e
      obtain ⟨v, h5, h6⟩ := hr.ok i w e
      exact ⟨v, h5, ha.same hs h6⟩
    · exact ha.elim
  | .non, c, X, g, x, h => by
    cases x <;> try (simp [okE] at h; done)
    rename_i cst _ _
    cases cst <;> try (simp [okE] at h; done)
    try simp [okE] at h
    refine PE.weak pe_non fun σ H Q q => ?_
    obtain ⟨L, st, r, hs, hr, ha⟩ := q
    simp only [evE] at ha
    exact ha.same hs .non
  | .bl b, c, X, g, x, h => by
    cases x <;> try (simp [okE] at h; done)
    rename_i cst _ _
    cases cst <;> try (simp [okE] at h; done)
    try simp [okE] at h
    subst h
    refine PE.weak pe_bl fun σ H Q q => ?_
    obtain ⟨L, st, r, hs, hr, ha⟩ := q
    simp only [evE] at ha
    exact ha.same hs (.bl _)
  | .int i, c, X, g, x, h => by
    cases x <;> try (simp [okE] at h; done)
    rename_i cst _ _
    cases cst <;> try (simp [okE] at h; done)
    try simp [okE] at h
    subst h
    refine PE.weak pe_int fun σ H Q q => ?_
    obtain ⟨L, st, r, hs, hr, ha⟩ := q
    simp only [evE] at ha
    exact ha.same hs (.int _)
  | .str z, c, X, g, x, h => by
    cases x <;> try (simp [okE] at h; done)
    rename_i cst _ _
    cases cst <;> try (simp [okE] at h; done)
    try simp [okE] at h
    subst h
    refine PE.weak pe_str fun σ H Q q => ?_
    obtain ⟨L, st, r, hs, hr, ha⟩ := q
    simp only [evE] at ha
    exact ha.same hs (.str _)
  | .tup es, c, X, g, x, h => by
    cases x <;> try (simp [okE] at h; done)
    simp [okE] at h
    refine PE.weak (pe_tup (sEs es g h)) fun σ H Q q => ?_
    obtain ⟨L, st, r, hs, hr, ha⟩ := q
    simp only [evE] at ha
    refine tEs_bind hs hr ha fun vs ws H1 L1 st1 hs1 hr1 s1 rv ha => ?_
    split at ha
    · rename_i hz
      exact ⟨by rw [rv.length]; exact hz, fun p hp => Ans.tup ha hs1 rv hp⟩
    · exact ha.elim
  | .lst es, c, X, g, x, h => by
    cases x <;> try (simp [okE] at h; done)
    simp [okE] at h
    refine PE.weak (pe_lst (sEs es g h)) fun σ H Q q => ?_
    obtain ⟨L, st, r, hs, hr, ha⟩ := q
    simp only [evE] at ha
    refine tEs_bind hs hr ha fun vs ws H1 L1 st1 hs1 hr1 s1 rv ha => ?_
    split at ha
    · rename_i hz
      exact ⟨by rw [rv.length]; exact hz, fun p hp => Ans.lst ha hs1 rv hp⟩
    · exact ha.elim
  | .bin op a b, c, X, g, x, h => by
    cases x <;> try (simp [okE] at h; done)
    simp [okE] at h
    obtain ⟨⟨rfl, h1⟩, h2⟩ := h
    refine PE.weak (pe_op (op_bin op) (sE a g h1) (sE b g h2)) fun σ H Q q => ?_
    obtain ⟨L, st, r, hs, hr, ha⟩ := q
    simp only [evE] at ha
    refine tE_bind hs hr ha fun v w H1 L1 st1 hs1 hr1 s1 rv ha => ?_
    refine tE_bind hs1 hr1 ha fun v2 w2 H2 L2 st2 hs2 hr2 s2 rv2 ha => ?_
    exact ⟨L2, st2, w, w2, hs2, rv.mono s2.toAhead, rv2, ha⟩
  | .neg a, c, X, g, x, h => by
    cases x <;> try (simp [okE] at h; done)
    rename_i op x pos
    cases op <;> try (simp [okE] at h; done)
    simp [okE] at h
    refine PE.weak (pe_un un_negW (sE a g h)) fun σ H Q q => ?_
    obtain ⟨L, st, r, hs, hr, ha⟩ := q
    simp only [evE] at ha
    exact tE_bind hs hr ha fun v w H1 L1 st1 hs1 hr1 s1 rv ha => ⟨L1, st1, w, hs1, rv, ha⟩
  | .cmp op a b, c, X, g, x, h => by
    cases x <;> try (simp [okE] at h; done)
    rename_i x ops ys pos
    cases ops with
    | nil => simp [okE] at h
    | cons op' ops =>
      cases ops with
      | cons _ _ => simp [okE] at h
      | nil =>
        cases ys with
        | nil => simp [okE] at h
        | cons y ys =>
          cases ys with
          | cons _ _ => simp [okE] at h
          | nil =>
            simp [okE] at h
            obtain ⟨⟨⟨rfl, h0⟩, h1⟩, h2⟩ := h
            refine PE.weak (pe_cmpR (op_cmpW op g.room.units) (sE a g h1) (sE b g h2) h0) fun σ H Q q => ?_
            obtain ⟨L, st, r, hs, hr, ha⟩ := q
            simp only [evE] at ha
            refine tE_bind hs hr ha fun v w H1 L1 st1 hs1 hr1 s1 rv ha => ?_
            refine tE_bind hs1 hr1 ha fun v2 w2 H2 L2 st2 hs2 hr2 s2 rv2 ha => ?_
            exact ⟨L2, st2, w, w2, hs2, rv.mono s2.toAhead, rv2, ha⟩
  | .ands es, c, X, g, x, h => by
    cases x <;> try (simp [okE] at h; done)
    rename_i op xs pos
    cases op <;> try (simp [okE] at h; done)
    simp [okE] at h
    refine PE.weak (sAnds es g h pos) fun σ H Q q => ?_
    obtain ⟨L, st, r, hs, hr, ha⟩ := q
    simp only [evE] at ha
    exact ⟨L, st, r, hs, hr, ha⟩
  | .ors es, c, X, g, x, h => by
    cases x <;> try (simp [okE] at h; done)
    rename_i op xs pos
    cases op <;> try (simp [okE] at h; done)
    simp [okE] at h
    refine PE.weak (sOrs es g h pos) fun σ H Q q => ?_
    obtain ⟨L, st, r, hs, hr, ha⟩ := q
    simp only [evE] at ha
    exact ⟨L, st, r, hs, hr, ha⟩
  | .not a, c, X, g, x, h => by
    cases x <;> try (simp [okE] at h; done)
    rename_i op x pos
    cases op <;> try (simp [okE] at h; done)
    simp [okE] at h
    refine PE.weak (pe_not (sE a g h)) fun σ H Q q => ?_
    obtain ⟨L, st, r, hs, hr, ha⟩ := q
    simp only [evE] at ha
    exact tE_bool hs hr ha fun b H1 L1 st1 hs1 hr1 s1 ha => ha.same hs1 (.bl _)
  | .ife t a b, c, X, g, x, h => by
    cases x <;> try (simp [okE] at h; done)
    simp [okE] at h
    obtain ⟨⟨⟨h1, h2⟩, h3⟩, h4⟩ := h
    refine PE.weak (pe_ifExp (sT t g h2 h1) (sE a g h3) (sE b g h4)) fun σ H Q q => ?_
    obtain ⟨L, st, r, hs, hr, ha⟩ := q
    simp only [evE] at ha
    refine tE_bool hs hr ha fun d H1 L1 st1 hs1 hr1 s1 ha => ?_
    cases d with
    | true =>
      simp only [if_true] at ha ⊢
      exact ⟨L1, st1, r, hs1, hr1, ha⟩
    | false =>
      simp only [Bool.false_eq_true, if_false] at ha ⊢
      exact ⟨L1, st1, r, hs1, hr1, ha⟩
  | .ix a i, c, X, g, x, h => by
    cases x <;> try (simp [okE] at h; done)
    simp [okE] at h
    obtain ⟨⟨h1, h2⟩, h3⟩ := h
    refine PE.weak (pe_ix ix_W (sE a g h2) (sE i g h3) (plainIx h1)) fun σ H Q q => ?_
    obtain ⟨L, st, r, hs, hr, ha⟩ := q
    simp only [evE] at ha
    refine tE_bind hs hr ha fun v w H1 L1 st1 hs1 hr1 s1 rv ha => ?_
    refine tE_bind hs1 hr1 ha fun v2 w2 H2 L2 st2 hs2 hr2 s2 rv2 ha => ?_
    exact ⟨L2, st2, w, w2, hs2, rv.mono s2.toAhead, rv2, ha⟩
  | .sl a lo hi, c, X, g, x, h => by
    cases x <;> try (simp [okE] at h; done)
    rename_i x y pos
    cases y <;> try (simp [okE] at h; done)
    rename_i l hh stp p2
    cases stp <;> try (simp [okE] at h; done)
    simp [okE] at h
    obtain ⟨⟨h1, h2⟩, h3⟩ := h
    refine PE.weak (pe_slice sl_W (sE a g h1) (sO lo g h2) (sO hi g h3)) fun σ H Q q => ?_
    obtain ⟨L, st, r, hs, hr, ha⟩ := q
    simp only [evE] at ha
    refine tE_bind hs hr ha fun v w H1 L1 st1 hs1 hr1 s1 rv ha => ?_
    refine tO_bind hs1 hr1 ha fun l1 H2 L2 st2 hs2 hr2 s2 ha => ?_
    refine tO_bind hs2 hr2 ha fun l2 H3 L3 st3 hs3 hr3 s3 ha => ?_
    exact ⟨L3, st3, w, hs3, rv.mono (s2.trans s3).toAhead, ha⟩
  | .call f es, c, X, g, x, h => by
    cases x <;> try (simp [okE] at h; done)
    rename_i fn xs kws pos
    cases fn <;> try (simp [okE] at h; done)
    rename_i x p
    cases kws <;> try (simp [okE] at h; done)
    simp only [okE, Bool.and_eq_true] at h
    obtain ⟨⟨h1, h2⟩, h3⟩ := h
    obtain ⟨q1, q2, q3⟩ := glC_ok g.toOkc h1
    simp only [Bool.and_assoc] at h2
    obtain ⟨sh, a, fd, ps, p1, p2, p3, p4, p5⟩ := sh_of g h2
    simp only [Bool.and_eq_true, decide_eq_true_eq] at p1
    obtain ⟨p6, p7, p8⟩ := p1
    have p8 := okPl_eq p8
    obtain ⟨z1, z2, z3⟩ := okEs_star h3 pos X.env
    have fin : ∀ {L : List Addr} {st : Sto} {vs : List V} {ws : List W} {H : Hp} {Q : VK}, SR X.K H L st → RVs X.K H L vs ws → ws.length = es.length → Ans X.K H L Q (cl f ws st) → spS X.K (cl f) sh vs [] H Q := fun {L st vs ws H Q} hs rv hl ha =>
      ⟨by rw [rv.length, hl, p6], by rw [p7]; rfl, L, st, ws, [], ws, hs, rv, .nil, by rw [← p8, ← hl]; exact plain_all [] ws [], ha⟩
    cases xs with
    | nil =>
      cases es with
      | cons _ _ => simp [okEs] at h3
      | nil =>
        refine PE.weak (pe_sh0 p4 p5 g.room g.guards q1 p2 p3 pk_nil (by rw [p7]; rfl) q2) fun σ H Q q => ?_
        obtain ⟨L, st, r, hs, hr, ha⟩ := q
        simp only [evE, evEs, R.bind_ok] at ha
        exact fin hs .nil rfl ha
    | cons y ys =>
      refine PE.weak (pe_sh p4 p5 g.room g.guards q1 p2 p3 (sEs es g h3) pk_nil (by rw [p7]; rfl) q2 (okEs_head h3 X.env) z1) fun σ H Q q => ?_
      obtain ⟨L, st, r, hs, hr, ha⟩ := q
      simp only [evE] at ha
      refine tEs_bind' hs hr ha fun vs ws H1 L1 st1 hs1 hr1 s1 rv hl ha => ?_
      exact fin hs1 rv hl ha
  | .callK f es ks pl, c, X, g, x, h => by
    cases x <;> try (simp [okE] at h; done)
    rename_i fn xs kws pos
    cases fn <;> try (simp [okE] at h; done)
    rename_i x p
    simp only [okE, Bool.and_eq_true] at h
    obtain ⟨⟨⟨h1, h2⟩, h3⟩, h4⟩ := h
    obtain ⟨q1, q2, q3⟩ := glC_ok g.toOkc h1
    simp only [Bool.and_assoc] at h2
    obtain ⟨sh, a, fd, ps, p1, p2, p3, p4, p5⟩ := sh_of g h2
    simp only [Bool.and_eq_true, decide_eq_true_eq] at p1
    obtain ⟨p6, p7, p8⟩ := p1
    have p8 := okPl_eq p8
    subst p8
    obtain ⟨z1, z2, z3⟩ := okEs_star h3 pos X.env
    have lk : ks.length = sh.ks.length := by
      have e1 := congrArg List.length p7
      rw [List.length_map, List.length_map] at e1
      rw [← e1]; exact okKs_len h4
    have fin : ∀ {L : List Addr} {st : Sto} {vs zs : List V} {ws ys : List W} {H : Hp} {Q : VK}, SR X.K H L st → RVs X.K H L vs ws → RVs X.K H L zs ys → ws.length = es.length → ys.length = ks.length → (Ans X.K H L Q (match Pl.all ws ys sh.pl with
        | some xs => cl f xs st
        | none => .stk)) → spS X.K (cl f) sh vs zs H Q := fun {L st vs zs ws ys H Q} hs rv rz hl hl2 ha => by
      cases e : Pl.all ws ys sh.pl with
      | none => rw [e] at ha; exact ha.elim
      | some xs =>
        rw [e] at ha
        exact ⟨by rw [rv.length, hl, p6], by rw [rz.length, hl2, lk], L, st, ws, ys, xs, hs, rv, rz, e, ha⟩
    cases xs with
    | nil =>
      cases es with
      | cons _ _ => simp [okEs] at h3
      | nil =>
        refine PE.weak (pe_sh0 p4 p5 g.room g.guards q1 p2 p3 (sKs ks g h4) p7 q2) fun σ H Q q => ?_
        obtain ⟨L, st, r, hs, hr, ha⟩ := q
        simp only [evE, evEs, R.bind_ok] at ha
        refine tEs_bind' hs hr ha fun zs ys H1 L1 st1 hs1 hr1 s1 rz hl ha => ?_
        exact fin hs1 .nil rz rfl hl ha
    | cons y ys =>
      refine PE.weak (pe_sh p4 p5 g.room g.guards q1 p2 p3 (sEs es g h3) (sKs ks g h4) p7 q2 (okEs_head h3 X.env) z1) fun σ H Q q => ?_
      obtain ⟨L, st, r, hs, hr, ha⟩ := q
      simp only [evE] at ha
      refine tEs_bind' hs hr ha fun vs ws H1 L1 st1 hs1 hr1 s1 rv hl ha => ?_
      refine tEs_bind' hs1 hr1 ha fun zs ys H2 L2 st2 hs2 hr2 s2 rz hl2 ha => ?_
      exact fin hs2 (rv.mono s2.toAhead) rz hl hl2 ha
  | .bi b es, c, X, g, x, h => by
    cases x <;> try (simp [okE] at h; done)
    rename_i fn xs kws pos
    cases fn <;> try (simp [okE] at h; done)
    rename_i x p
    cases xs <;> try (simp [okE] at h; done)
    rename_i y ys
    cases kws <;> try (simp [okE] at h; done)
    simp only [okE, Bool.and_eq_true, decide_eq_true_eq] at h
    obtain ⟨⟨rfl, h1⟩, h2⟩ := h
    obtain ⟨q1, q2, q3⟩ := glC_ok g.toOkc h1
    obtain ⟨z1, z2, z3⟩ := okEs_star h2 pos X.env
    have he := okEs_head h2 X.env
    rw [he] at z1
    refine PE.weak (pe_bi b g.calm g.guards (by have := g.room.un; omega) q1 (g.fns.free _ (free_bi b)) (sEs es g h2) q2 q3 he (Bool.or_eq_false_iff.mp z1).2) fun σ H Q q => ?_
    obtain ⟨L, st, r, hs, hr, ha⟩ := q
    simp only [evE] at ha
    exact tEs_bind hs hr ha fun vs ws H1 L1 st1 hs1 hr1 s1 rv ha => ⟨L1, st1, ws, hs1, rv, ha⟩
  | .isi t a, c, X, g, x, h => by
    cases x <;> try (simp [okE] at h; done)
    rename_i fn xs kws pos
    cases fn <;> try (simp [okE] at h; done)
    rename_i x p
    cases xs <;> try (simp [okE] at h; done)
    rename_i y ys
    cases ys <;> try (simp [okE] at h; done)
    rename_i z zs
    cases z <;> try (simp [okE] at h; done)
    rename_i z pz
    cases zs <;> try (simp [okE] at h; done)
    cases kws <;> try (simp [okE] at h; done)
    simp only [okE, Bool.and_eq_true, decide_eq_true_eq] at h
    obtain ⟨⟨⟨⟨⟨rfl, h1⟩, rfl⟩, h2⟩, h3⟩, h4⟩ := h
    obtain ⟨q1, q2, q3⟩ := glC_ok g.toOkc h1
    obtain ⟨t1, t2, t3⟩ := glC_ok g.toOkc h2
    have hT : PE X (.Name t.cstr pz) (tC (.ty t.nm)) := by
      refine pe_bltn (v := .ty t.nm) (u := .type t.nm) t1 (g.fns.free _ ?_) ?_ rfl t3 t2
      · cases t <;> simp [Ty.cstr]
      · cases t <;> decide +kernel
    have es : starEach [y, .Name t.cstr pz] X.env = (false, eval y X.env) :: starEach [.Name t.cstr pz] X.env := notStar_each h3 _ _
    refine PE.weak (pe_callB (cr_isi t) q1 (g.fns.free _ (by simp)) (by decide +kernel) (pa_cons (sE a g h4) (pa_cons hT pa_nil) es) q3 q2 es) fun σ H Q q => ?_
    obtain ⟨L, st, r, hs, hr, ha⟩ := q
    simp only [evE] at ha
    exact tE_bind hs hr ha fun v w H1 L1 st1 hs1 hr1 s1 rv ha => ⟨L1, st1, v, w, rfl, hs1, rv, ha⟩
  | .bm m o es, c, X, g, x, h => by
    cases x <;> try (simp [okE] at h; done)
    rename_i fn xs kws pos
    cases fn <;> try (simp [okE] at h; done)
    rename_i x n ap
    cases xs <;> try (simp [okE] at h; done)
    rename_i y ys
    cases kws <;> try (simp [okE] at h; done)
    simp only [okE, Bool.and_eq_true, decide_eq_true_eq] at h
    obtain ⟨⟨⟨⟨⟨rfl, h1⟩, h2⟩, h3⟩, h4⟩, h5⟩ := h
    obtain ⟨z1, z2, z3⟩ := okEs_star h5 pos X.env
    have he := okEs_head h5 X.env
    have z1' := z1
    rw [he] at z1'
    have few : ((backTo pos (starEach (y :: ys) X.env)).all (fun x => !x.1) && (backToKw pos (keywordEach [] X.env)).all (fun x => x.1.isSome)
        && decide ((y :: ys).length + ([] : List Keyword).length + (if ([] : List Keyword).isEmpty then 0 else 1) < 30)) = true := by
      rw [z2]
      simp [backToKw, keywordEach]
      omega
    cases m with
    | append =>
      refine PE.weak (pe_bm PySem.F.plainAttrs_list PySem.F.slot_list_append PySem.F.type_list_append mt_appendW (sE o g h4) (sEs es g h5) (base_of h1 _ _) few (by simp [h2]) he (Bool.or_eq_false_iff.mp z1').2) fun σ H Q q => ?_
      obtain ⟨L, st, r, hs, hr, ha⟩ := q
      simp only [evE] at ha
      refine tE_bind hs hr ha fun v w H1 L1 st1 hs1 hr1 s1 rv ha => ?_
      refine ⟨?_, tEs_bind hs1 hr1 ha fun vs ws H2 L2 st2 hs2 hr2 s2 rvs ha => ⟨L2, st2, w, ws, hs2, rv.mono s2.toAhead, rvs, ha⟩⟩
      cases w with
      | ref n =>
        cases rv with
        | ref e =>
          cases e1 : st1[n]? with
          | none =>
            have := hs1.len
            have h1 := (List.getElem?_eq_some_iff.mp e).1
            rw [List.getElem?_eq_none_iff] at e1
            omega
          | some cell =>
            cases cell with
            | lst ws =>
              obtain ⟨vs, e2, _⟩ := hs1.lst e e1
              exact Or.inl ⟨rfl, _, SqL.of e2⟩
      | _ =>
        cases e1 : evEs cl es r st1 with
        | stk => rw [e1] at ha; exact ha.elim
        | ok ws st2 =>
          rw [e1] at ha
          simp only [R.bind_ok, bmW] at ha
          exact (ha : False).elim
  | .comp own el t s ifs gs, c, X, g, x, h => by
    cases x <;> try (simp [okE] at h; done)
    rename_i x gens scope pos
    cases gs with
    | cons _ _ => simp [okE] at h
    | nil =>
      cases gens with
      | nil => simp [okE] at h
      | cons gen gens =>
        obtain ⟨y, z, is, as⟩ := gen
        cases gens with
        | cons _ _ => simp [okE] at h
        | nil =>
          simp only [okE, Bool.and_eq_true, decide_eq_true_eq] at h
          obtain ⟨⟨⟨⟨⟨⟨⟨rfl, h1⟩, h2⟩, h3⟩, h4⟩, h5⟩, h6⟩, h7⟩ := h
          have bo : BlkOk X.N X.env.scope scope (ownsOf c.N own) := by
            rw [g.N, g.sc]; exact blkOk_by h2
          refine PE.weak (pe_lc (wi := tSr cl X.K s) (g := tT X.K t) (tt := tIfs cl X.K ifs) (te := tE cl X.K el) g.calm g.nd (sSr s g h3) bo (fun s H C cs fp => pg_T (g.blk scope s H C cs fp).toOkc h4) (fun s H C cs fp => sIfs ifs (g.blk scope s H C cs fp) h6) (fun s H C cs fp => sE el (g.blk scope s H C cs fp) h7) (okSr_fold h3 X.env)) fun σ H Q q => ?_
          rw [h1]
          exact lc_read h5 σ H Q q
  | .gc e, c, X, g, x, h => by
    refine PE.weak (sE e g (x := x) (by simpa only [okE] using h)) fun σ H Q q => ?_
    obtain ⟨L, st, r, hs, hr, ha⟩ := q
    simp only [evE] at ha
    exact ⟨L, st, r, hs, hr, ha.ungc hs⟩
theorem sT : ∀ (e : E) {c : Ck} {X : Cx} (g : Good T shs cl k c X) {x : Expr}, e.tst = true → okE T shs c e x = true → PT X x (tB (tE cl X.K e))
  | .not a, c, X, g, x, ht, h => by
    cases x <;> try (simp [okE] at h; done)
    rename_i op x pos
    cases op <;> try (simp [okE] at h; done)
    simp [okE] at h
    refine PT.weak (pt_not (sT a g (by simpa [E.tst] using ht) h)) fun σ H Q q => ?_
    obtain ⟨L, st, r, hs, hr, ha⟩ := q
    simp only [evE] at ha
    refine tE_bool hs hr ha fun b H1 L1 st1 hs1 hr1 s1 ha => ?_
    obtain ⟨b', e, q⟩ := ha.same hs1 (.bl _)
    cases e
    exact q
  | .ands es, c, X, g, x, ht, h => by
    cases x <;> try (simp [okE] at h; done)
    rename_i op xs pos
    cases op <;> try (simp [okE] at h; done)
    simp [okE] at h
    cases es with
    | nil =>
      refine PT.weak (t := fun _ _ _ => False) ⟨fun _ _ _ _ _ _ q => q.elim⟩ fun σ H Q q => ?_
      obtain ⟨L, st, r, hs, hr, ha⟩ := q
      simp only [evE, evAnds] at ha
      exact ha
    | cons e es =>
      refine PT.weak (sAndsT (e :: es) g (by simpa [E.tst] using ht) h (by simp) pos).pt fun σ H Q q => ?_
      obtain ⟨L, st, r, hs, hr, ha⟩ := q
      simp only [evE] at ha
      exact ⟨L, st, r, hs, hr, ha⟩
  | .ors es, c, X, g, x, ht, h => by
    cases x <;> try (simp [okE] at h; done)
    rename_i op xs pos
    cases op <;> try (simp [okE] at h; done)
    simp [okE] at h
    cases es with
    | nil =>
      refine PT.weak (t := fun _ _ _ => False) ⟨fun _ _ _ _ _ _ q => q.elim⟩ fun σ H Q q => ?_
      obtain ⟨L, st, r, hs, hr, ha⟩ := q
      simp only [evE, evOrs] at ha
      exact ha
    | cons e es =>
      refine PT.weak (sOrsT (e :: es) g (by simpa [E.tst] using ht) h (by simp) pos).pt fun σ H Q q => ?_
      obtain ⟨L, st, r, hs, hr, ha⟩ := q
      simp only [evE] at ha
      exact ⟨L, st, r, hs, hr, ha⟩
  | .ife _ _ _, c, X, g, x, ht, h => by simp [E.tst] at ht
  | .gc e, c, X, g, x, ht, h => by
    refine PT.weak (sT e g (x := x) (by simpa [E.tst] using ht) (by simpa only [okE] using h)) fun σ H Q q => ?_
    obtain ⟨L, st, r, hs, hr, ha⟩ := q
    simp only [evE] at ha
    exact ⟨L, st, r, hs, hr, ha.ungc hs⟩
  | .cmp op a b, c, X, g, x, ht, h => by
    cases x <;> try (simp [okE] at h; done)
    rename_i x ops ys pos
    cases ops with
    | nil => simp [okE] at h
    | cons op' ops =>
      cases ops with
      | cons _ _ => simp [okE] at h
      | nil =>
        cases ys with
        | nil => simp [okE] at h
        | cons y ys =>
          cases ys with
          | cons _ _ => simp [okE] at h
          | nil =>
            simp [okE] at h
            obtain ⟨⟨⟨rfl, h0⟩, h1⟩, h2⟩ := h
            refine PT.weak (pt_cmpR (op_cmpW op g.room.units) (sE a g h1) (sE b g h2) h0) fun σ H Q q => ?_
            obtain ⟨L, st, r, hs, hr, ha⟩ := q
            simp only [evE] at ha
            refine tE_bind hs hr ha fun v w H1 L1 st1 hs1 hr1 s1 rv ha => ?_
            refine tE_bind hs1 hr1 ha fun v2 w2 H2 L2 st2 hs2 hr2 s2 rv2 ha => ?_
            exact ⟨L2, st2, w, w2, hs2, rv.mono s2.toAhead, rv2, ha⟩
  | .v i, c, X, g, x, ht, h => pt_val (sE (.v i) g h) fun wh => by cases x <;> first | rfl | (simp [okE] at h; done)
  | .non, c, X, g, x, ht, h => pt_val (sE .non g h) fun wh => by cases x <;> first | rfl | (simp [okE] at h; done)
  | .bl b, c, X, g, x, ht, h => pt_val (sE (.bl b) g h) fun wh => by cases x <;> first | rfl | (simp [okE] at h; done)
  | .int i, c, X, g, x, ht, h => pt_val (sE (.int i) g h) fun wh => by cases x <;> first | rfl | (simp [okE] at h; done)
  | .str i, c, X, g, x, ht, h => pt_val (sE (.str i) g h) fun wh => by cases x <;> first | rfl | (simp [okE] at h; done)
  | .tup i, c, X, g, x, ht, h => pt_val (sE (.tup i) g h) fun wh => by cases x <;> first | rfl | (simp [okE] at h; done)
  | .lst i, c, X, g, x, ht, h => pt_val (sE (.lst i) g h) fun wh => by cases x <;> first | rfl | (simp [okE] at h; done)
  | .bin o a b, c, X, g, x, ht, h => pt_val (sE (.bin o a b) g h) fun wh => by cases x <;> first | rfl | (simp [okE] at h; done)
  | .neg i, c, X, g, x, ht, h => pt_val (sE (.neg i) g h) fun wh => by
    cases x <;> first | rfl | (simp [okE] at h; done) | skip
    rename_i op _ _
    cases op <;> first | rfl | (simp [okE] at h; done)
  | .ix a i, c, X, g, x, ht, h => pt_val (sE (.ix a i) g h) fun wh => by cases x <;> first | rfl | (simp [okE] at h; done)
  | .sl a l u, c, X, g, x, ht, h => pt_val (sE (.sl a l u) g h) fun wh => by cases x <;> first | rfl | (simp [okE] at h; done)
  | .call f es, c, X, g, x, ht, h => pt_val (sE (.call f es) g h) fun wh => by cases x <;> first | rfl | (simp [okE] at h; done)
  | .callK f es ks pl, c, X, g, x, ht, h => pt_val (sE (.callK f es ks pl) g h) fun wh => by cases x <;> first | rfl | (simp [okE] at h; done)
  | .bi b es, c, X, g, x, ht, h => pt_val (sE (.bi b es) g h) fun wh => by cases x <;> first | rfl | (simp [okE] at h; done)
  | .isi t a, c, X, g, x, ht, h => pt_val (sE (.isi t a) g h) fun wh => by cases x <;> first | rfl | (simp [okE] at h; done)
  | .bm m o es, c, X, g, x, ht, h => pt_val (sE (.bm m o es) g h) fun wh => by cases x <;> first | rfl | (simp [okE] at h; done)
  | .comp own el t s ifs gs, c, X, g, x, ht, h => pt_val (sE (.comp own el t s ifs gs) g h) fun wh => by cases x <;> first | rfl | (simp [okE] at h; done)
theorem sEs : ∀ (es : List E) {c : Ck} {X : Cx} (g : Good T shs cl k c X) {xs : List Expr}, okEs T shs c es xs = true → PA X xs (tEs cl X.K es)
  | [], c, X, g, xs, h => by
    cases xs with
    | cons _ _ => simp [okEs] at h
    | nil =>
      refine PA.weak pa_nil fun σ H Q q => ?_
      obtain ⟨L, st, r, hs, hr, ha⟩ := q
      simp only [evEs] at ha
      exact ha.same hs .nil
  | e :: es, c, X, g, xs, h => by
    cases xs with
    | nil => simp [okEs] at h
    | cons x xs =>
      simp [okEs] at h
      obtain ⟨⟨h1, h2⟩, h3⟩ := h
      refine PA.weak (pa_cons (sE e g h2) (sEs es g h3) (notStar_each h1 _ _)) fun σ H Q q => ?_
      obtain ⟨L, st, r, hs, hr, ha⟩ := q
      simp only [evEs] at ha
      refine tE_bind hs hr ha fun v w H1 L1 st1 hs1 hr1 s1 rv ha => ?_
      exact tEs_bind hs1 hr1 ha fun vs ws H2 L2 st2 hs2 hr2 s2 rvs ha => ha.same hs2 (.cons (rv.mono s2.toAhead) rvs)
theorem sKs : ∀ (es : List E) {c : Ck} {X : Cx} (g : Good T shs cl k c X) {xs : List Keyword}, okKs T shs c es xs = true → PK X xs (tEs cl X.K es)
  | [], c, X, g, xs, h => by
    cases xs with
    | cons _ _ => simp [okKs] at h
    | nil =>
      refine PK.weak pk_nil fun σ H Q q => ?_
      obtain ⟨L, st, r, hs, hr, ha⟩ := q
      simp only [evEs] at ha
      exact ha.same hs .nil
  | e :: es, c, X, g, xs, h => by
    cases xs with
    | nil => simp [okKs] at h
    | cons x xs =>
      obtain ⟨nm, x, kp⟩ := x
      simp [okKs] at h
      refine PK.weak (pk_cons (sE e g h.1) (sKs es g h.2)) fun σ H Q q => ?_
      obtain ⟨L, st, r, hs, hr, ha⟩ := q
      simp only [evEs] at ha
      refine tE_bind hs hr ha fun v w H1 L1 st1 hs1 hr1 s1 rv ha => ?_
      exact tEs_bind hs1 hr1 ha fun vs ws H2 L2 st2 hs2 hr2 s2 rvs ha => ha.same hs2 (.cons (rv.mono s2.toAhead) rvs)
theorem sAnds : ∀ (es : List E) {c : Ck} {X : Cx} (g : Good T shs cl k c X) {xs : List Expr}, okEs T shs c es xs = true → ∀ pos, PE X (.BoolOp .And xs pos) (tAndsE cl X.K es)
  | [], c, X, g, xs, h, pos => PE.weak (t := fun _ _ _ => False) ⟨fun _ _ _ _ _ _ q => q.elim⟩ fun σ H Q q => by
    obtain ⟨L, st, r, hs, hr, ha⟩ := q
    simp only [evAnds] at ha
    exact ha
  | [e], c, X, g, xs, h, pos => by
    cases xs with
    | nil => simp [okEs] at h
    | cons x xs =>
      cases xs with
      | cons _ _ => simp [okEs] at h
      | nil =>
        simp [okEs] at h
        refine PE.weak (pe_one (sE e g h.2)) fun σ H Q q => ?_
        obtain ⟨L, st, r, hs, hr, ha⟩ := q
        simp only [evAnds] at ha
        exact ⟨L, st, r, hs, hr, ha⟩
  | e :: f :: es, c, X, g, xs, h, pos => by
    cases xs with
    | nil => simp [okEs] at h
    | cons x xs =>
      rw [okEs] at h
      simp only [Bool.and_eq_true] at h
      obtain ⟨⟨h1, h2⟩, h3⟩ := h
      cases xs with
      | nil => simp [okEs] at h3
      | cons y ys =>
        refine PE.weak (pe_and (sE e g h2) (sAnds (f :: es) g h3 pos)) fun σ H Q q => ?_
        obtain ⟨L, st, r, hs, hr, ha⟩ := q
        simp only [evAnds] at ha
        refine tE_bool hs hr ha fun b H1 L1 st1 hs1 hr1 s1 ha => ?_
        cases b with
        | true =>
          simp only [if_true] at ha ⊢
          exact ⟨L1, st1, r, hs1, hr1, ha⟩
        | false =>
          simp only [Bool.false_eq_true, if_false] at ha ⊢
          exact ha.same hs1 (.bl _)
theorem sOrs : ∀ (es : List E) {c : Ck} {X : Cx} (g : Good T shs cl k c X) {xs : List Expr}, okEs T shs c es xs = true → ∀ pos, PE X (.BoolOp .Or xs pos) (tOrsE cl X.K es)
  | [], c, X, g, xs, h, pos => PE.weak (t := fun _ _ _ => False) ⟨fun _ _ _ _ _ _ q => q.elim⟩ fun σ H Q q => by
    obtain ⟨L, st, r, hs, hr, ha⟩ := q
    simp only [evOrs] at ha
    exact ha
  | [e], c, X, g, xs, h, pos => by
    cases xs with
    | nil => simp [okEs] at h
    | cons x xs =>
      cases xs with
      | cons _ _ => simp [okEs] at h
      | nil =>
        simp [okEs] at h
        refine PE.weak (pe_one (sE e g h.2)) fun σ H Q q => ?_
        obtain ⟨L, st, r, hs, hr, ha⟩ := q
        simp only [evOrs] at ha
        exact ⟨L, st, r, hs, hr, ha⟩
  | e :: f :: es, c, X, g, xs, h, pos => by
    cases xs with
    | nil => simp [okEs] at h
    | cons x xs =>
      rw [okEs] at h
      simp only [Bool.and_eq_true] at h
      obtain ⟨⟨h1, h2⟩, h3⟩ := h
      cases xs with
      | nil => simp [okEs] at h3
      | cons y ys =>
        refine PE.weak (pe_or (sE e g h2) (sOrs (f :: es) g h3 pos)) fun σ H Q q => ?_
        obtain ⟨L, st, r, hs, hr, ha⟩ := q
        simp only [evOrs] at ha
        refine tE_bool hs hr ha fun b H1 L1 st1 hs1 hr1 s1 ha => ?_
        cases b with
        | true =>
          simp only [if_true] at ha ⊢
          exact ha.same hs1 (.bl _)
        | false =>
          simp only [Bool.false_eq_true, if_false] at ha ⊢
          exact ⟨L1, st1, r, hs1, hr1, ha⟩
theorem sAndsT : ∀ (es : List E) {c : Ck} {X : Cx} (g : Good T shs cl k c X) {xs : List Expr}, E.tsts es = true → okEs T shs c es xs = true → es ≠ [] → ∀ pos, PW X (.BoolOp .And xs pos) (tB (tAndsE cl X.K es))
  | [], c, X, g, xs, ht, h, hn, pos => absurd rfl hn
  | [e], c, X, g, xs, ht, h, hn, pos => by
    cases xs with
    | nil => simp [okEs] at h
    | cons x xs =>
      cases xs with
      | cons _ _ => simp [okEs] at h
      | nil =>
        simp [okEs] at h
        refine PW.weak (pw_and1 (sT e g (by simpa [E.tsts] using ht) h.2)) fun σ H Q q => ?_
        obtain ⟨L, st, r, hs, hr, ha⟩ := q
        simp only [evAnds] at ha
        exact ⟨L, st, r, hs, hr, ha⟩
  | e :: f :: es, c, X, g, xs, ht, h, hn, pos => by
    cases xs with
    | nil => simp [okEs] at h
    | cons x xs =>
      rw [okEs] at h
      simp only [Bool.and_eq_true] at h
      obtain ⟨⟨h1, h2⟩, h3⟩ := h
      rw [E.tsts] at ht
      simp only [Bool.and_eq_true] at ht
      cases xs with
      | nil => simp [okEs] at h3
      | cons y ys =>
        refine PW.weak (pw_and (sT e g ht.1 h2) (sAndsT (f :: es) g ht.2 h3 (by simp) pos)) fun σ H Q q => ?_
        obtain ⟨L, st, r, hs, hr, ha⟩ := q
        simp only [evAnds] at ha
        refine tE_bool hs hr ha fun b H1 L1 st1 hs1 hr1 s1 ha => ?_
        cases b with
        | true =>
          simp only [if_true] at ha ⊢
          exact ⟨L1, st1, r, hs1, hr1, ha⟩
        | false =>
          simp only [Bool.false_eq_true, if_false] at ha ⊢
          obtain ⟨b, e, q⟩ := ha.same hs1 (.bl _)
          cases e
          exact q
theorem sOrsT : ∀ (es : List E) {c : Ck} {X : Cx} (g : Good T shs cl k c X) {xs : List Expr}, E.tsts es = true → okEs T shs c es xs = true → es ≠ [] → ∀ pos, PW X (.BoolOp .Or xs pos) (tB (tOrsE cl X.K es))
  | [], c, X, g, xs, ht, h, hn, pos => absurd rfl hn
  | [e], c, X, g, xs, ht, h, hn, pos => by
    cases xs with
    | nil => simp [okEs] at h
    | cons x xs =>
      cases xs with
      | cons _ _ => simp [okEs] at h
      | nil =>
        simp [okEs] at h
        refine PW.weak (pw_or1 (sT e g (by simpa [E.tsts] using ht) h.2)) fun σ H Q q => ?_
        obtain ⟨L, st, r, hs, hr, ha⟩ := q
        simp only [evOrs] at ha
        exact ⟨L, st, r, hs, hr, ha⟩
  | e :: f :: es, c, X, g, xs, ht, h, hn, pos => by
    cases xs with
    | nil => simp [okEs] at h
    | cons x xs =>
      rw [okEs] at h
      simp only [Bool.and_eq_true] at h
      obtain ⟨⟨h1, h2⟩, h3⟩ := h
      rw [E.tsts] at ht
      simp only [Bool.and_eq_true] at ht
      cases xs with
      | nil => simp [okEs] at h3
      | cons y ys =>
        refine PW.weak (pw_or (sT e g ht.1 h2) (sOrsT (f :: es) g ht.2 h3 (by simp) pos)) fun σ H Q q => ?_
        obtain ⟨L, st, r, hs, hr, ha⟩ := q
        simp only [evOrs] at ha
        refine tE_bool hs hr ha fun b H1 L1 st1 hs1 hr1 s1 ha => ?_
        cases b with
        | true =>
          simp only [if_true] at ha ⊢
          obtain ⟨b, e, q⟩ := ha.same hs1 (.bl _)
          cases e
          exact q
        | false =>
          simp only [Bool.false_eq_true, if_false] at ha ⊢
          exact ⟨L1, st1, r, hs1, hr1, ha⟩
theorem sO : ∀ (o : Option E) {c : Ck} {X : Cx} (g : Good T shs cl k c X) {x : Option Expr}, okO T shs c o x = true → PO X x (tO_ cl X.K o)
  | none, c, X, g, x, h => by
    cases x with
    | some _ => simp [okO] at h
    | none =>
      refine PO.weak po_none fun σ H Q q => ?_
      obtain ⟨L, st, r, hs, hr, ha⟩ := q
      simp only [evO] at ha
      exact ha.same hs rfl
  | some e, c, X, g, x, h => by
    cases x with
    | none => simp [okO] at h
    | some x =>
      rw [okO] at h
      refine PO.weak (po_some (sE e g h)) fun σ H Q q => ?_
      obtain ⟨L, st, r, hs, hr, ha⟩ := q
      simp only [evO] at ha
      refine tE_bind hs hr ha fun v w H1 L1 st1 hs1 hr1 s1 rv ha => ?_
      cases w with
      | int i =>
        cases rv
        exact ⟨i, rfl, ha.same hs1 rfl⟩
      | _ => exact ha.elim
theorem sSr : ∀ (s : Sr) {c : Ck} {X : Cx} (g : Good T shs cl k c X) {x tg : Expr}, okSr T shs c s x = true → PI X tg x (tSr cl X.K s)
  | .e e, c, X, g, x, tg, h => by
    simp only [okSr, Bool.and_eq_true] at h
    refine PI.weak (pi_seq (sE e g h.1)) fun σ H R q => ?_
    obtain ⟨L, st, r, hs, hr, ha⟩ := q
    simp only [evSr] at ha
    refine tE_bindI hs hr ha fun v w H1 L1 st1 hs1 hr1 s1 rv ha => ?_
    unfold srcW at ha
    split at ha
    · cases rv with
      | tup h1 h2 => exact ⟨_, rfl, .inr ⟨⟨_, h1⟩, ha _ H1 L1 hs1 (Step.refl _ _) (src_tup h1 h2)⟩⟩
    · split at ha
      · rename_i e1
        cases rv with
        | ref h1 =>
          obtain ⟨vs, h2, h3⟩ := hs1.lst h1 e1
          exact ⟨_, rfl, .inl ⟨⟨_, SqL.of h2⟩, ha _ H1 L1 hs1 (Step.refl _ _) (src_list h1)⟩⟩
      · exact ha.elim
    · exact ha.elim
  | .rng1 a, c, X, g, x, tg, h => by
    cases x <;> try (simp [okSr] at h; done)
    rename_i fn xs kws pos
    cases fn <;> try (simp [okSr] at h; done)
    rename_i x p
    cases xs <;> try (simp [okSr] at h; done)
    rename_i y ys
    cases ys <;> try (simp [okSr] at h; done)
    cases kws <;> try (simp [okSr] at h; done)
    simp only [okSr, Bool.and_eq_true, decide_eq_true_eq] at h
    obtain ⟨⟨⟨rfl, h1⟩, h2⟩, h3⟩ := h
    obtain ⟨q1, q2, q3⟩ := glC_ok g.toOkc h1
    refine PI.weak (pi_range1 q1 (g.fns.free _ (by simp)) (pa_cons (sE a g h3) pa_nil (notStar_each h2 _ _)) (notStar_each h2 _ _)) fun σ H R q => ?_
    obtain ⟨L, st, r, hs, hr, ha⟩ := q
    simp only [evSr] at ha
    refine tE_bindI hs hr ha fun v w H1 L1 st1 hs1 hr1 s1 rv ha => ?_
    cases w with
    | int j =>
      cases rv
      simp only [rangeW] at ha
      split at ha
      · rename_i hb
        refine ⟨j, rfl, hb.2.2.1, hb.2.2.2, ?_⟩
        have q := ha (Itr 0 j.toNat) H1 L1 hs1 (Step.refl _ _) (by have := src_range (K := X.K) (H := H1) (L := L1) (lo := 0) (n := j.toNat); simpa using this)
        exact q
      · exact ha.elim
    | _ => exact ha.elim
  | .rng2 a b, c, X, g, x, tg, h => by
    cases x <;> try (simp [okSr] at h; done)
    rename_i fn xs kws pos
    cases fn <;> try (simp [okSr] at h; done)
    rename_i x p
    cases xs <;> try (simp [okSr] at h; done)
    rename_i y ys
    cases ys <;> try (simp [okSr] at h; done)
    rename_i z zs
    cases zs <;> try (simp [okSr] at h; done)
    cases kws <;> try (simp [okSr] at h; done)
    simp only [okSr, Bool.and_eq_true, decide_eq_true_eq] at h
    obtain ⟨⟨⟨⟨⟨rfl, h1⟩, h2⟩, h3⟩, h4⟩, h5⟩ := h
    obtain ⟨q1, q2, q3⟩ := glC_ok g.toOkc h1
    have e2 : starEach [z] X.env = [(false, eval z X.env)] := notStar_each h3 _ _
    have e1 : starEach [y, z] X.env = [(false, eval y X.env), (false, eval z X.env)] := by rw [notStar_each h2, e2]
    refine PI.weak (pi_range2 q1 (g.fns.free _ (by simp)) (pa_cons (sE a g h4) (pa_cons (sE b g h5) pa_nil (notStar_each h3 _ _)) (notStar_each h2 _ _)) e1 e2) fun σ H R q => ?_
    obtain ⟨L, st, r, hs, hr, ha⟩ := q
    simp only [evSr] at ha
    refine tE_bindI hs hr ha fun v w H1 L1 st1 hs1 hr1 s1 rv ha => ?_
    refine tE_bindI hs1 hr1 ha fun v2 w2 H2 L2 st2 hs2 hr2 s2 rv2 ha => ?_
    cases w with
    | int i =>
      cases w2 with
      | int j =>
        cases rv
        cases rv2
        simp only [rangeW] at ha
        split at ha
        · rename_i hb
          exact ⟨i, j, rfl, hb, ha (Itr i (j - i).toNat) H2 L2 hs2 (Step.refl _ _) src_range⟩
        · exact ha.elim
      | _ => exact ha.elim
    | _ => exact ha.elim
theorem sIfs : ∀ (es : List E) {c : Ck} {X : Cx} (g : Good T shs cl k c X) {xs : List Expr}, okIfs T shs c es xs = true → PTs X xs (tIfs cl X.K es)
  | [], c, X, g, xs, h => by
    cases xs with
    | cons _ _ => simp [okIfs] at h
    | nil =>
      refine PTs.weak pts_nil fun σ H Q q => ?_
      obtain ⟨L, st, r, hs, hr, ha⟩ := q
      simp only [evIfs] at ha
      exact ha.same hs rfl
  | [e], c, X, g, xs, h => by
    cases xs with
    | nil => simp [okIfs] at h
    | cons x xs =>
      cases xs with
      | cons _ _ => simp [okIfs] at h
      | nil =>
        simp [okIfs] at h
        refine PTs.weak (pts_one (sT e g h.2 h.1)) fun σ H Q q => ?_
        obtain ⟨L, st, r, hs, hr, ha⟩ := q
        simp only [evIfs] at ha
        refine tE_bool hs hr ha fun b H1 L1 st1 hs1 hr1 s1 ha => ?_
        cases b <;> exact ha.same hs1 rfl
  | e :: f :: es, c, X, g, xs, h => by
    cases xs with
    | nil => simp [okIfs] at h
    | cons x xs => cases xs <;> simp [okIfs] at h
end
end
end Mi

namespace Mi
open PySem PySem.Spec PyProof.Rows L2

def AnsS (K : PySem.W.Frag) (H : Hp) (L : List Addr) (D : Ends) : RS → Prop
  | .stk => False
  | .nx r' st' => ∀ σ' H' L', SR K H' L' st' → SlOk K H' L' σ' r' → Step H L H' L' → D.nx σ' H'
  | .ret w st' => ∀ v H' L', SR K H' L' st' → Step H L H' L' → RV K H' L' v w → D.rt v H'
  | .brk r' st' => ∀ σ' H' L', SR K H' L' st' → SlOk K H' L' σ' r' → Step H L H' L' → D.bk σ' H'
  | .cont r' st' => ∀ σ' H' L', SR K H' L' st' → SlOk K H' L' σ' r' → Step H L H' L' → D.ct σ' H'
section
variable (cl : Nat → List W → Sto → R W) (fu : Nat) (K : PySem.W.Frag)
def tS (s : S) : TS := fun D σ H => ∃ L st r, SR K H L st ∧ SlOk K H L σ r ∧ AnsS K H L D (evS cl fu s r st)
def tSs (ss : List S) : TS := fun D σ H => ∃ L st r, SR K H L st ∧ SlOk K H L σ r ∧ AnsS K H L D (evSs cl fu ss r st)
end
section
variable {cl : Nat → List W → Sto → R W} {fu : Nat} {K : PySem.W.Frag} {H : Hp} {L : List Addr} {st : Sto} {σ : L2.St} {r : Sl} {D : Ends}
theorem AnsS.step {H1 : Hp} {L1 : List Addr} {x : RS} (h : AnsS K H L D x) (s : Step H L H1 L1) : AnsS K H1 L1 D x := by
  cases x with
  | stk => exact h
  | nx r' st' => exact fun v H' L' h1 h2 h3 => h v H' L' h1 h2 (s.trans h3)
  | ret r' st' => exact fun v H' L' h1 h2 h3 => h v H' L' h1 (s.trans h2) h3
  | brk r' st' => exact fun v H' L' h1 h2 h3 => h v H' L' h1 h2 (s.trans h3)
  | cont r' st' => exact fun v H' L' h1 h2 h3 => h v H' L' h1 h2 (s.trans h3)
theorem tE_toS {e : E} {f : W → Sto → RS} {P : VK} (hs : SR K H L st) (hr : SlOk K H L σ r) (h : AnsS K H L D ((evE cl e r st).toS f))
    (k : ∀ v w H1 L1 st1, SR K H1 L1 st1 → SlOk K H1 L1 σ r → Step H L H1 L1 → RV K H1 L1 v w → AnsS K H1 L1 D (f w st1) → P v H1) : tE cl K e σ H P := by
  refine ⟨L, st, r, hs, hr, ?_⟩
  cases e1 : evE cl e r st with
  | stk => rw [e1] at h; exact h
  | ok w st1 =>
    rw [e1] at h
    exact fun v H1 L1 h1 h2 h3 => k v w H1 L1 st1 h1 (hr.mono h2.toAhead) h2 h3 (h.step h2)
theorem tE_boolS {e : E} {f : Bool → Sto → RS} {P : Bool → Hp → Prop} (hs : SR K H L st) (hr : SlOk K H L σ r) (h : AnsS K H L D (boolS (evE cl e r st) f))
    (k : ∀ b H1 L1 st1, SR K H1 L1 st1 → SlOk K H1 L1 σ r → Step H L H1 L1 → AnsS K H1 L1 D (f b st1) → P b H1) : tB (tE cl K e) σ H P := by
  refine ⟨L, st, r, hs, hr, ?_⟩
  cases e1 : evE cl e r st with
  | stk => rw [e1] at h; exact h
  | ok w st1 =>
    rw [e1] at h
    cases w with
    | bl b =>
      intro v H1 L1 h1 h2 h3
      cases h3
      exact ⟨b, rfl, k b H1 L1 st1 h1 (hr.mono h2.toAhead) h2 (h.step h2)⟩
    | _ => exact h.elim
theorem AnsS.nx (h : AnsS K H L D (.nx r st)) (hs : SR K H L st) (hr : SlOk K H L σ r) : D.nx σ H := h σ H L hs hr (Step.refl H L)
theorem for_read {t : Tg} {s : Sr} {body : List S} (h : tS cl fu K (.fr t s body) D σ H) : tFor (tSr cl K s) (tT K t) (tSs cl fu K body) D σ H := by
  obtain ⟨L, st, r, hs, hr, h⟩ := h
  simp only [evS] at h
  refine ⟨L, st, r, hs, hr, ?_⟩
  cases e1 : evSr cl s r st with
  | stk => rw [e1] at h; exact h
  | ok cw st1 =>
    rw [e1] at h
    simp only [R.toS] at h
    intro J H1 L1 hs1 s1 src
    refine ⟨fun i m σ' H' => m = cw.2.length - i ∧ i ≤ cw.2.length ∧ ∃ L' st' r', SR K H' L' st' ∧ SlOk K H' L' σ' r' ∧ Step H1 L1 H' L' ∧ AnsS K H' L' D (loopF cw.1 (fun w r st => withT t w r (fun r' => evSs cl fu body r' st) .stk) (cw.2.drop i) r' st'), ⟨cw.2.length, by simp, Nat.zero_le _, L1, st1, r, hs1, hr.mono s1.toAhead, Step.refl _ _, by simpa using h.step s1⟩, ?_⟩
    rintro i m σ2 H2 ⟨rfl, hi, L2, st2, r2, hs2, hr2, s2, h2⟩
    by_cases hlt : i < cw.2.length
    · right
      rw [List.drop_eq_getElem_cons hlt, loopF] at h2
      split at h2
      · rename_i hck
        obtain ⟨g1, g2⟩ := src.go i _ H2 L2 st2 s2.toAhead hs2 hck (List.getElem?_eq_getElem hlt)
        refine ⟨g1, fun σ' H' => i + 1 ≤ cw.2.length ∧ ∃ L' st' r', SR K H' L' st' ∧ SlOk K H' L' σ' r' ∧ Step H1 L1 H' L' ∧ AnsS K H' L' D (loopF cw.1 (fun w r st => withT t w r (fun r' => evSs cl fu body r' st) .stk) (cw.2.drop (i + 1)) r' st'), fun σ' H' q => ⟨cw.2.length - (i + 1), by omega, rfl, q⟩, fun x H3 y => ?_⟩
        obtain ⟨hs3, rx, s3⟩ := g2 x H3 y
        have h3 := h2.step s3
        cases eb : bindT t (cw.2[i]) r2 with
        | none => simp only [withT, eb] at h3; exact h3.elim
        | some r' =>
          simp only [withT, eb] at h3
          refine ⟨L2, st2, r2, _, r', hs3, hr2.mono s3.toAhead, rx, eb, fun σ' hr' _ => ⟨L2, st2, r', hs3, hr', ?_⟩⟩
          cases ev : evSs cl fu body r' st2 with
          | stk => rw [ev] at h3; exact h3
          | nx r4 st4 =>
            rw [ev] at h3
            simp only [RS.turn] at h3
            exact fun σ4 H4 L4 hs4 hr4 s4 => ⟨hlt, L4, st4, r4, hs4, hr4, (s2.trans s3).trans s4, h3.step s4⟩
          | cont r4 st4 =>
            rw [ev] at h3
            simp only [RS.turn] at h3
            exact fun σ4 H4 L4 hs4 hr4 s4 => ⟨hlt, L4, st4, r4, hs4, hr4, (s2.trans s3).trans s4, h3.step s4⟩
          | brk r4 st4 =>
            rw [ev] at h3
            simp only [RS.turn] at h3
            exact h3
          | ret w st4 =>
            rw [ev] at h3
            simp only [RS.turn] at h3
            exact h3
      · exact h2.elim
    · left
      have e : i = cw.2.length := by omega
      subst e
      rw [List.drop_length, loopF] at h2
      split at h2
      · rename_i hck
        exact ⟨src.stop _ H2 L2 st2 s2.toAhead hs2 hck (Nat.le_refl _), h2.nx hs2 hr2⟩
      · exact h2.elim
theorem while_read {c : E} {body : List S} (h : tS cl fu K (.whl c body) D σ H) : tWhile (tB (tE cl K c)) (tSs cl fu K body) D σ H := by
  obtain ⟨L, st, r, hs, hr, h⟩ := h
  simp only [evS] at h
  refine ⟨fun m σ' H' => ∃ L' st' r', SR K H' L' st' ∧ SlOk K H' L' σ' r' ∧ AnsS K H' L' D (loopW (fun r st => evE cl c r st) (fun r st => evSs cl fu body r st) m r' st'), ⟨fu, L, st, r, hs, hr, h⟩, ?_⟩
  rintro m σ1 H1 ⟨L1, st1, r1, hs1, hr1, h1⟩
  cases m with
  | zero => exact h1.elim
  | succ n =>
    rw [loopW] at h1
    refine tE_boolS hs1 hr1 h1 fun b H2 L2 st2 hs2 hr2 s2 h2 => ?_
    cases b with
    | false =>
      simp only [Bool.false_eq_true, if_false] at h2 ⊢
      exact h2.nx hs2 hr2
    | true =>
      simp only [if_true] at h2 ⊢
      refine ⟨fun σ' H' => ∃ L' st' r', SR K H' L' st' ∧ SlOk K H' L' σ' r' ∧ AnsS K H' L' D (loopW (fun r st => evE cl c r st) (fun r st => evSs cl fu body r st) n r' st'), fun σ' H' q => ⟨n, Nat.lt_succ_self n, q⟩, L2, st2, r1, hs2, hr2, ?_⟩
      cases ev : evSs cl fu body r1 st2 with
      | stk => rw [ev] at h2; exact h2
      | nx r4 st4 =>
        rw [ev] at h2
        simp only [RS.turn] at h2
        exact fun σ4 H4 L4 hs4 hr4 s4 => ⟨L4, st4, r4, hs4, hr4, h2.step s4⟩
      | cont r4 st4 =>
        rw [ev] at h2
        simp only [RS.turn] at h2
        exact fun σ4 H4 L4 hs4 hr4 s4 => ⟨L4, st4, r4, hs4, hr4, h2.step s4⟩
      | brk r4 st4 =>
        rw [ev] at h2
        simp only [RS.turn] at h2
        exact h2
      | ret w st4 =>
        rw [ev] at h2
        simp only [RS.turn] at h2
        exact h2
end

def notTup : Expr → Bool
  | .Tuple _ _ _ | .List _ _ => false
  | _ => true
def swOk (c : Ck) (y x : Expr) : Bool := notComp x || (match y with
  | .Name n _ => decide (c.sc.names.lookup n = some .cell)
  | .Tuple _ _ _ => true
  | _ => false)
section
variable (T : Tab) (shs : List Sh)
mutual
def okS (c : Ck) : S → Stmt → Bool
  | .ex e, .Expr x _ => okE T shs c e x && notComp x
  | .asgC i own el t s ifs gs, .Assign [.Name y py] (.ListComp x gens scope p) _ => decide (c.N[i]? = some y) && decide (c.sc.names.lookup y = some .local) && (py.line == p.line) && !(scope.names.any fun (n, k) => n == y && (k == .local || k == .cell)) && okE T shs c (.comp own el t s ifs gs) (.ListComp x gens scope p)
  | .asg t e, .Assign [y] x _ => okT c t y && okE T shs c e x && swOk c y x && (notTup y || notTup x)
  | .setI o i e, .Assign [.Subscript y z _] x _ => notSlice z && okE T shs c o y && okE T shs c i z && okE T shs c e x && notComp x
  | .aug i op e, .AugAssign (.Name y _) op' x _ => decide (op = op') && decide (c.N[i]? = some y) && locC c y && okE T shs c e x
  | .ret e, .Return (some x) _ => okE T shs c e x
  | .retN, .Return none _ => true
  | .ite t a b, .If x y z _ => okE T shs c t x && t.tst && okSs c a y && okSs c b z
  | .fr t s body, .For y z bs [] _ => okT c t y && okSr T shs c s z && okSs c body bs
  | .whl t body, .While x bs [] _ => okE T shs c t x && t.tst && okSs c body bs
  | .pass, .Pass _ => true
  | .brk, .Break _ => true
  | .cont, .Continue _ => true
  | _, _ => false
def okSs (c : Ck) : List S → List Stmt → Bool
  | [], [] => true
  | s :: ss, x :: xs => okS c s x && okSs c ss xs
  | _, _ => false
end
end
theorem sw_false {x : Expr} (h : notComp x = true) (t : Option Expr) (l : Nat) (env : Env) : swapsWith x t l env = pure false := by
  cases x <;> first | rfl | (simp [notComp] at h)
theorem swSole {c : Ck} {y x : Expr} {env : Env} (hsc : env.scope = c.sc) (h : swOk c y x = true) (l : Nat) : swapsWithSole [y] x l env = pure false := by
  show swapsWith x (some y) l env = pure false
  unfold swOk at h
  cases hn : notComp x with
  | true => exact sw_false hn _ _ _
  | false =>
    rw [hn] at h
    simp only [Bool.false_or] at h
    cases y <;> try (exact absurd h Bool.false_ne_true)
    · rename_i n p
      have hc : env.kindOf n = some .cell := by
        show env.scope.names.lookup n = _
        rw [hsc]; simpa using h
      cases x <;> first | rfl | (simp [notComp] at hn; done) | skip
      all_goals
        unfold swapsWith
        simp only [hc]
        have e : (some NameKind.cell == some NameKind.local) = false := rfl
        simp [e]
        try rfl
    · cases x <;> first | rfl | (simp [notComp] at hn; done)
theorem sst_none {y x : Expr} (h : (notTup y || notTup x) = true) (env : Env) : swappedStores [y] x env = pure none := by
  cases y <;> first | rfl | skip
  · cases x <;> first | rfl | (simp [notTup] at h; done)
  · cases x <;> first | rfl | (simp [notTup] at h; done)
section
variable {T : Tab} {shs : List Sh} {cl : Nat → List W → Sto → R W} {k fu : Nat}
mutual
theorem sS : ∀ (s : S) {c : Ck} {X : Cx} (g : Good T shs cl k c X) (hp : PassesOwn (model X.prog X.w) X.A X.env X.xe ∧ X.env.scope.kind = .function) {x : Stmt}, okS T shs c s x = true → PS X x (tS cl fu X.K s)
  | .ex e, c, X, g, hp, x, h => by
    cases x <;> try (simp [okS] at h; done)
    simp [okS] at h
    refine PS.weak (ps_expr (sE e g h.1) (sw_false h.2 _ _ _)) fun D σ H q => ?_
    obtain ⟨L, st, r, hs, hr, ha⟩ := q
    simp only [evS] at ha
    exact tE_toS hs hr ha fun v w H1 L1 st1 hs1 hr1 s1 rv ha => ha.nx hs1 hr1
  | .asgC i own el t' s ifs gs, c, X, g, hp, x, h => by
    cases x <;> try (simp [okS] at h; done)
    rename_i ys x pos
    cases ys <;> try (simp [okS] at h; done)
    rename_i y ys
    cases y <;> cases ys <;> try (simp [okS] at h; done)
    rename_i y py
    cases x <;> try (simp [okS] at h; done)
    rename_i x' gens scope p
    simp only [okS, Bool.and_eq_true, decide_eq_true_eq, Bool.not_eq_true'] at h
    obtain ⟨⟨⟨⟨h1, h2⟩, h3⟩, h4⟩, h5⟩ := h
    cases gs with
    | cons _ _ => simp [okE] at h5
    | nil =>
      cases gens with
      | nil => simp [okE] at h5
      | cons gen gens =>
        obtain ⟨y', z, is, as⟩ := gen
        cases gens with
        | cons _ _ => simp [okE] at h5
        | nil =>
          simp only [okE, Bool.and_eq_true, decide_eq_true_eq] at h5
          obtain ⟨⟨⟨⟨⟨⟨⟨rfl, k1⟩, k2⟩, k3⟩, k4⟩, k5⟩, k6⟩, k7⟩ := h5
          have bo : BlkOk X.N X.env.scope scope (ownsOf c.N own) := by
            rw [g.N, g.sc]; exact blkOk_by k2
          have sw : swapsWith (.ListComp x' [⟨y', z, is, 0⟩] scope p) (some (.Name y py)) pos.line X.env = pure true := sw_true hp.2 (by rw [g.sc]; exact h2) h3 h4
          refine PS.weak (ps_setLc (i := i) (wi := tSr cl X.K s) (g := tT X.K t') (tt := tIfs cl X.K ifs) (te := tE cl X.K el) g.calm g.nd (by rw [g.N]; exact h1) (by rw [g.sc]; exact h2) sw (sSr s g k3) bo (fun s H C cs fp => pg_T (g.blk scope s H C cs fp).toOkc k4) (fun s H C cs fp => sIfs ifs (g.blk scope s H C cs fp) k6) (fun s H C cs fp => sE el (g.blk scope s H C cs fp) k7) (okSr_fold k3 X.env)) fun D σ H q => ?_
          rw [k1]
          refine lc_read k5 σ H _ ?_
          obtain ⟨L, st, r, hs, hr, ha⟩ := q
          simp only [evS] at ha
          exact tE_toS hs hr ha fun v w H1 L1 st1 hs1 hr1 s1 rv ha => ha.nx hs1 (hr1.set rv i)
  | .asg t e, c, X, g, hp, x, h => by
    cases x <;> try (simp [okS] at h; done)
    rename_i ys x pos
    cases ys <;> try (simp [okS] at h; done)
    rename_i y ys
    cases ys <;> try (simp [okS] at h; done)
    simp only [okS, Bool.and_eq_true] at h
    obtain ⟨⟨⟨h1, h2⟩, h3⟩, h4⟩ := h
    refine PS.weak (ps_asg (sE e g h2) (pg_T g.toOkc h1) (swSole g.sc h3 _) (sst_none h4 _) (by rw [okT_each h1]; rfl)) fun D σ H q => ?_
    obtain ⟨L, st, r, hs, hr, ha⟩ := q
    simp only [evS] at ha
    refine tE_toS hs hr ha fun v w H1 L1 st1 hs1 hr1 s1 rv ha => ?_
    cases eb : bindT t w r with
    | none => simp only [withT, eb] at ha; exact ha.elim
    | some r' =>
      simp only [withT, eb] at ha
      exact ⟨L1, st1, r, w, r', hs1, hr1, rv, eb, fun σ' hr' _ => ha.nx hs1 hr'⟩
  | .setI o i e, c, X, g, hp, x, h => by
    cases x <;> try (simp [okS] at h; done)
    rename_i ys x pos
    cases ys <;> try (simp [okS] at h; done)
    rename_i y ys
    cases y <;> cases ys <;> try (simp [okS] at h; done)
    rename_i y z ps
    simp [okS] at h
    obtain ⟨⟨⟨⟨h1, h2⟩, h3⟩, h4⟩, h5⟩ := h
    refine PS.weak (ps_asg (sE e g h4) (pg_sub (sE o g h2) (sE i g h3) set_W (fun v => by cases z <;> first | rfl | (simp [notSlice] at h1; done))) (by show swapsWith x (some (.Subscript y z ps)) pos.line X.env = pure false; exact sw_false h5 _ _ _) rfl rfl) fun D σ H q => ?_
    obtain ⟨L, st, r, hs, hr, ha⟩ := q
    simp only [evS] at ha
    refine tE_toS hs hr ha fun v w H1 L1 st1 hs1 hr1 s1 rv ha => ?_
    refine tE_toS hs1 hr1 ha fun v2 w2 H2 L2 st2 hs2 hr2 s2 rv2 ha => ?_
    refine tE_toS hs2 hr2 ha fun v3 w3 H3 L3 st3 hs3 hr3 s3 rv3 ha => ?_
    refine ⟨L3, st3, w2, w3, w, hs3, rv2.mono s3.toAhead, rv3, rv.mono (s2.trans s3).toAhead, ?_⟩
    cases e1 : setW w2 w3 w st3 with
    | stk => rw [e1] at ha; exact ha
    | ok u st4 =>
      rw [e1] at ha
      exact fun _ H4 L4 hs4 s4 _ => ha σ H4 L4 hs4 (hr3.mono s4.toAhead) s4
  | .aug i op e, c, X, g, hp, x, h => by
    cases x <;> try (simp [okS] at h; done)
    rename_i y op' x pos
    cases y <;> try (simp [okS] at h; done)
    simp [okS] at h
    obtain ⟨⟨⟨rfl, h1⟩, h2⟩, h3⟩ := h
    obtain ⟨l1, l2⟩ := locC_ok g.toOkc h2
    by_cases hop : op = .Add
    · subst hop
      refine PS.weak (ps_aug (i := i) g.nd (by rw [g.N]; exact h1) l1 (sE e g h3) ip_add l2) fun D σ H q => ?_
      obtain ⟨L, st, r, hs, hr, ha⟩ := q
      simp only [evS] at ha
      split at ha
      · rename_i w e1
        obtain ⟨v, e2, rv⟩ := hr.ok i w e1
        refine ⟨v, e2, tE_toS hs hr ha fun v2 w2 H1 L1 st1 hs1 hr1 s1 rv2 ha => ?_⟩
        cases w with
        | int a =>
          cases w2 with
          | int b =>
            cases rv; cases rv2
            exact ⟨a, b, rfl, rfl, ha.nx hs1 (hr1.set (.int _) i)⟩
          | _ => exact ha.elim
        | _ => exact ha.elim
      · exact ha.elim
    · by_cases hop2 : op = .Sub
      · subst hop2
        refine PS.weak (ps_aug (i := i) g.nd (by rw [g.N]; exact h1) l1 (sE e g h3) ip_sub l2) fun D σ H q => ?_
        obtain ⟨L, st, r, hs, hr, ha⟩ := q
        simp only [evS] at ha
        split at ha
        · rename_i w e1
          obtain ⟨v, e2, rv⟩ := hr.ok i w e1
          refine ⟨v, e2, tE_toS hs hr ha fun v2 w2 H1 L1 st1 hs1 hr1 s1 rv2 ha => ?_⟩
          cases w with
          | int a =>
            cases w2 with
            | int b =>
              cases rv; cases rv2
              exact ⟨a, b, rfl, rfl, ha.nx hs1 (hr1.set (.int _) i)⟩
            | _ => exact ha.elim
          | _ => exact ha.elim
        · exact ha.elim
      · refine PS.weak ps_never fun D σ H q => ?_
        obtain ⟨L, st, r, hs, hr, ha⟩ := q
        simp only [evS] at ha
        split at ha
        · cases e1 : evE cl e r st with
          | stk => rw [e1] at ha; exact ha
          | ok w2 st2 =>
            rw [e1] at ha
            simp only [R.toS] at ha
            split at ha
            · exact hop rfl
            · exact hop2 rfl
            · exact ha
        · exact ha
  | .ret e, c, X, g, hp, x, h => by
    cases x <;> try (simp [okS] at h; done)
    rename_i o pos
    cases o <;> try (simp [okS] at h; done)
    simp [okS] at h
    refine PS.weak (ps_ret (sE e g h)) fun D σ H q => ?_
    obtain ⟨L, st, r, hs, hr, ha⟩ := q
    simp only [evS] at ha
    exact tE_toS hs hr ha fun v w H1 L1 st1 hs1 hr1 s1 rv ha => ha v H1 L1 hs1 (Step.refl _ _) rv
  | .retN, c, X, g, hp, x, h => by
    cases x <;> try (simp [okS] at h; done)
    rename_i o pos
    cases o <;> try (simp [okS] at h; done)
    refine PS.weak ps_retN fun D σ H q => ?_
    obtain ⟨L, st, r, hs, hr, ha⟩ := q
    simp only [evS] at ha
    exact ha .non H L hs (Step.refl _ _) .non
  | .ite t a b, c, X, g, hp, x, h => by
    cases x <;> try (simp [okS] at h; done)
    simp [okS] at h
    obtain ⟨⟨⟨h1, h2⟩, h3⟩, h4⟩ := h
    refine PS.weak (ps_if (sT t g h2 h1) (sSs a g hp h3) (sSs b g hp h4)) fun D σ H q => ?_
    obtain ⟨L, st, r, hs, hr, ha⟩ := q
    simp only [evS] at ha
    refine tE_boolS hs hr ha fun d H1 L1 st1 hs1 hr1 s1 ha => ?_
    cases d with
    | true =>
      simp only [if_true] at ha ⊢
      exact ⟨L1, st1, r, hs1, hr1, ha⟩
    | false =>
      simp only [Bool.false_eq_true, if_false] at ha ⊢
      exact ⟨L1, st1, r, hs1, hr1, ha⟩
  | .fr t s body, c, X, g, hp, x, h => by
    cases x <;> try (simp [okS] at h; done)
    rename_i y z bs os pos
    cases os <;> try (simp [okS] at h; done)
    simp [okS] at h
    obtain ⟨⟨h1, h2⟩, h3⟩ := h
    exact PS.weak (ps_for hp.1 g.calm (sSr s g h2) (pg_T g.toOkc h1) (sSs body g hp h3) (okSr_fold h2 X.env)) fun D σ H q => for_read q
  | .whl t body, c, X, g, hp, x, h => by
    cases x <;> try (simp [okS] at h; done)
    rename_i y bs os pos
    cases os <;> try (simp [okS] at h; done)
    simp [okS] at h
    obtain ⟨⟨h1, h2⟩, h3⟩ := h
    exact PS.weak (ps_while hp.1 (sT t g h2 h1) (sSs body g hp h3)) fun D σ H q => while_read q
  | .pass, c, X, g, hp, x, h => by
    cases x <;> try (simp [okS] at h; done)
    refine PS.weak ps_pass fun D σ H q => ?_
    obtain ⟨L, st, r, hs, hr, ha⟩ := q
    simp only [evS] at ha
    exact ha.nx hs hr
  | .brk, c, X, g, hp, x, h => by
    cases x <;> try (simp [okS] at h; done)
    refine PS.weak ps_break fun D σ H q => ?_
    obtain ⟨L, st, r, hs, hr, ha⟩ := q
    simp only [evS] at ha
    exact ha σ H L hs hr (Step.refl _ _)
  | .cont, c, X, g, hp, x, h => by
    cases x <;> try (simp [okS] at h; done)
    refine PS.weak ps_continue fun D σ H q => ?_
    obtain ⟨L, st, r, hs, hr, ha⟩ := q
    simp only [evS] at ha
    exact ha σ H L hs hr (Step.refl _ _)
theorem sSs : ∀ (ss : List S) {c : Ck} {X : Cx} (g : Good T shs cl k c X) (hp : PassesOwn (model X.prog X.w) X.A X.env X.xe ∧ X.env.scope.kind = .function) {xs : List Stmt}, okSs T shs c ss xs = true → PSs X xs (tSs cl fu X.K ss)
  | [], c, X, g, hp, xs, h => by
    cases xs with
    | cons _ _ => simp [okSs] at h
    | nil =>
      refine PSs.weak pss_nil fun D σ H q => ?_
      obtain ⟨L, st, r, hs, hr, ha⟩ := q
      simp only [evSs] at ha
      exact ha.nx hs hr
  | s :: ss, c, X, g, hp, xs, h => by
    cases xs with
    | nil => simp [okSs] at h
    | cons x xs =>
      simp [okSs] at h
      refine PSs.weak (pss_cons (sS s g hp h.1) (sSs ss g hp h.2)) fun D σ H q => ?_
      obtain ⟨L, st, r, hs, hr, ha⟩ := q
      simp only [evSs] at ha
      refine ⟨L, st, r, hs, hr, ?_⟩
      cases e1 : evS cl fu s r st with
      | stk => rw [e1] at ha; exact ha
      | nx r1 st1 =>
        rw [e1] at ha
        simp only [RS.seq] at ha
        exact fun σ1 H1 L1 hs1 hr1 s1 => ⟨L1, st1, r1, hs1, hr1, ha.step s1⟩
      | ret w st1 => rw [e1] at ha; simp only [RS.seq] at ha; exact ha
      | brk r1 st1 => rw [e1] at ha; simp only [RS.seq] at ha; exact ha
      | cont r1 st1 => rw [e1] at ha; simp only [RS.seq] at ha; exact ha
end
end

def okD (T : Tab) (shs : List Sh) (d : Def) (body : List Stmt) (sc : Scope) : Bool :=
  (match sc.kind with | .function => true | _ => false) && !sc.isCoroutine && !sc.isGenerator && decide d.N.Nodup && decide (d.N.take d.ps.length = d.ps) &&
  (d.ps.all fun x => decide (sc.names.lookup x = some .local) || decide (sc.names.lookup x = some .cell)) && (sc.names.all fun y => decide (y.2 ≠ .free)) && okSs T shs ⟨d.N, sc, fun _ => true⟩ d.body body
theorem okD_scope {T : Tab} {shs : List Sh} {d : Def} {body : List Stmt} {sc : Scope} (h : okD T shs d body sc = true) : FnScope d.N d.ps sc ∧ okSs T shs ⟨d.N, sc, fun _ => true⟩ d.body body = true := by
  simp only [okD, Bool.and_eq_true, decide_eq_true_eq, Bool.not_eq_true', List.all_eq_true, Bool.or_eq_true] at h
  obtain ⟨⟨⟨⟨⟨⟨⟨h1, h2⟩, h3⟩, h4⟩, h5⟩, h6⟩, h7⟩, h8⟩ := h
  refine ⟨⟨?_, h2, h3, h4, h5, h6, h7⟩, h8⟩
  split at h1
  · assumption
  · cases h1
section
variable {T : Tab} {shs : List Sh} {P : Program} {w : World} {K : PySem.W.Frag} {mg : Str → Option Value} {base : Heap}
theorem start_ok {H : Hp} {L : List Addr} {N : List Str} {vs : List V} {ws : List W} (hl : ws.length ≤ N.length) (h : RVs K H L vs ws) : SlOk K H L (L2.start N vs) (ws.map some ++ List.replicate (N.length - ws.length) none) := by
  refine ⟨by simp [L2.start, h.length], fun i w e => ?_⟩
  by_cases hi : i < ws.length
  · rw [List.getElem?_append_left (by simpa using hi), List.getElem?_map] at e
    cases e1 : ws[i]? with
    | none => rw [e1] at e; cases e
    | some w' =>
      rw [e1] at e
      simp at e
      subst e
      obtain ⟨v, h1, h2⟩ := h.get e1
      refine ⟨v, ?_, h2⟩
      unfold L2.start
      rw [List.getElem?_append_left (by rw [List.length_map, h.length]; exact hi), List.getElem?_map, h1]
      rfl
  · rw [List.getElem?_append_right (by simpa using Nat.le_of_not_lt hi), List.getElem?_replicate] at e
    split at e <;> simp at e
theorem def_ok {cl : Nat → List W → Sto → R W} {fu k : Nat} {d : Def} {x qual : Str} {params : Arguments} {body : List Stmt} {scope : Scope} {dvs : List V} {kws : List (Str × V)} {f : Addr} {fd : FuncData}
    (F : FunD K x qual params body scope dvs kws f fd) (hd : okD T shs d body scope = true) (fns : Fns T shs cl k P w K mg base) : FnG P w K mg base CX0 (k + 1) f fd d.ps (spI K (runD cl fu d)) := by
  obtain ⟨S, hb⟩ := okD_scope hd
  refine FnG.of F S fun cdv A outer s H vs Q E hr hg hl hsp => ?_
  have gd : Good T shs cl k ⟨d.N, scope, fun _ => true⟩ (cxOf CX0 P w K mg base d.N qual scope f cdv A outer s H E).nox := ⟨⟨rfl, S.nd, rfl, fun _ _ => rfl, rfl⟩, hr, hg, fns⟩
  refine ⟨tSs cl fu K d.body, PSs.nox (sSs d.body gd ⟨PassesOwn.never, S.kind⟩ hb), ?_⟩
  obtain ⟨L, st, ws, hs, hv, ha⟩ := hsp
  unfold runD at ha
  have hpl : d.ps.length ≤ d.N.length := by
    have := congrArg List.length S.pre
    rw [List.length_take] at this
    omega
  split at ha
  · rename_i hw
    have ha := ha.ungc hs
    refine ⟨L, st, _, hs, start_ok (by omega) hv, ?_⟩
    cases e : evSs cl fu d.body (ws.map some ++ List.replicate (d.N.length - ws.length) none) st with
    | stk => rw [e] at ha; exact ha
    | nx r st' => rw [e] at ha; exact fun σ' H' L' h1 h2 h3 => ha .non H' L' h1 h3 .non
    | ret w st' => rw [e] at ha; exact fun v H' L' h1 h2 h3 => ha v H' L' h1 h2 h3
    | brk r st' => rw [e] at ha; exact ha.elim
    | cont r st' => rw [e] at ha; exact ha.elim
  · exact ha.elim
/-- what the top has left -/
structure Tops (T : Tab) (shs : List Sh) (K : PySem.W.Frag) (mg : Str → Option Value) : Prop where
  fn : ∀ f d, T[f]? = some d → ∃ (a : Addr) (fd : FuncData) (x qual : Str) (params : Arguments) (body : List Stmt) (scope : Scope) (dvs : List V) (kws : List (Str × V)), mg d.nm = some (.ref a) ∧ FunD K x qual params body scope dvs kws a fd ∧ okD T shs d body scope = true ∧ ∀ sh ∈ shs, sh.f = f → Bnd K fd d.ps sh
  free : ∀ x ∈ (["abs", "int", "len", "max", "min", "repr", "list", "tuple", "all", "any", "isinstance", "range", "bool", "str"] : List Str), mg x = none
theorem fns_ok (fu : Nat) (h : Tops T shs K mg) : ∀ n : Nat, Fns T shs (callN T fu n) n P w K mg base
  | 0 => ⟨fun f d e => by
      obtain ⟨a, fd, x, qual, params, body, scope, dvs, kws, h1, h2, h3, h4⟩ := h.fn f d e
      refine ⟨a, fd, h1, h2.kp, ⟨fun A outer s H args us vs Q E _ _ _ _ _ _ hsp => ?_⟩, h4⟩
      obtain ⟨L, st, ws, hs, hv, ha⟩ := hsp
      exact (show False from ha).elim, h.free⟩
  | n + 1 => ⟨fun f d e => by
      obtain ⟨a, fd, x, qual, params, body, scope, dvs, kws, h1, h2, h3, h4⟩ := h.fn f d e
      have := def_ok (fu := fu) h2 h3 (fns_ok fu h n)
      refine ⟨a, fd, h1, h2.kp, ⟨fun A outer s H args us vs Q E a1 a2 a3 a4 a5 a6 hsp => this.run A outer s H args us vs Q E a1 a2 a3 a4 a5 a6 ?_⟩, h4⟩
      obtain ⟨L, st, ws, hs, hv, ha⟩ := hsp
      refine ⟨L, st, ws, hs, hv, ?_⟩
      simpa only [callN, e] using ha, h.free⟩
end
end Mi

namespace Mi
open PySem PySem.Spec PyProof.Rows L2

def picked {α : Type} (us zs : List α) : List Pl → Option (List α)
  | [] => some []
  | .p i :: pl => match us[i]?, picked us zs pl with
    | some u, some xs => some (u :: xs)
    | _, _ => none
  | .k i :: pl => match zs[i]?, picked us zs pl with
    | some u, some xs => some (u :: xs)
    | _, _ => none
  | .d _ :: _ => none
theorem Vals_get {vs : List V} {us : List Value} (h : Vals vs us) {i : Nat} {u : Value} (e : us[i]? = some u) : ∃ v, vs[i]? = some v ∧ RelV v u := by
  induction h generalizing i with
  | nil => simp at e
  | cons h1 _ ih =>
    cases i with
    | zero => simp at e; subst e; exact ⟨_, rfl, h1⟩
    | succ i => simpa using ih (by simpa using e)
theorem picked_V {vs ys : List V} {us zs : List Value} (h1 : Vals vs us) (h2 : Vals ys zs) : ∀ {pl : List Pl} {xs : List Value}, picked us zs pl = some xs → ∃ fs, picked vs ys pl = some fs ∧ Vals fs xs
  | [], xs, e => by
    cases e
    exact ⟨[], rfl, .nil⟩
  | .p i :: pl, xs, e => by
    unfold picked at e
    split at e
    · rename_i u xs' e1 e2
      cases e
      obtain ⟨v, e3, r⟩ := Vals_get h1 e1
      obtain ⟨fs, e4, r2⟩ := picked_V h1 h2 e2
      exact ⟨v :: fs, by unfold picked; rw [e3, e4], .cons r r2⟩
    · cases e
  | .k i :: pl, xs, e => by
    unfold picked at e
    split at e
    · rename_i u xs' e1 e2
      cases e
      obtain ⟨v, e3, r⟩ := Vals_get h2 e1
      obtain ⟨fs, e4, r2⟩ := picked_V h1 h2 e2
      exact ⟨v :: fs, by unfold picked; rw [e3, e4], .cons r r2⟩
    · cases e
  | .d _ :: _, _, e => by cases e
theorem RVs_getV {K : PySem.W.Frag} {H : Hp} {L : List Addr} {vs : List V} {ws : List W} (h : RVs K H L vs ws) {i : Nat} {v : V} (e : vs[i]? = some v) : ∃ w, ws[i]? = some w ∧ RV K H L v w := by
  induction vs generalizing i ws with
  | nil => simp at e
  | cons x xs ih =>
    cases h with
    | cons a b =>
      cases i with
      | zero => simp at e; subst e; exact ⟨_, rfl, a⟩
      | succ i => simpa using ih b (by simpa using e)
theorem picked_W {K : PySem.W.Frag} {H : Hp} {L : List Addr} {vs ys : List V} {us zs : List W} (h1 : RVs K H L vs us) (h2 : RVs K H L ys zs) : ∀ {pl : List Pl} {fs : List V} {xs : List W}, picked vs ys pl = some fs → Pl.all us zs pl = some xs → RVs K H L fs xs
  | [], fs, xs, e, e' => by
    cases e; cases e'
    exact .nil
  | .p i :: pl, fs, xs, e, e' => by
    unfold picked at e
    split at e
    · rename_i u fs' e1 e2
      cases e
      unfold Pl.all at e'
      split at e'
      · rename_i w xs' e3 e4
        cases e'
        obtain ⟨w', e5, r⟩ := RVs_getV h1 e1
        have e3 : us[i]? = some w := e3
        rw [e5] at e3
        cases e3
        exact .cons r (picked_W h1 h2 e2 e4)
      · cases e'
    · cases e
  | .k i :: pl, fs, xs, e, e' => by
    unfold picked at e
    split at e
    · rename_i u fs' e1 e2
      cases e
      unfold Pl.all at e'
      split at e'
      · rename_i w xs' e3 e4
        cases e'
        obtain ⟨w', e5, r⟩ := RVs_getV h2 e1
        have e3 : zs[i]? = some w := e3
        rw [e5] at e3
        cases e3
        exact .cons r (picked_W h1 h2 e2 e4)
      · cases e'
    · cases e
  | .d _ :: _, _, _, e, _ => by cases e
theorem picked_len {α : Type} {us zs : List α} : ∀ {pl : List Pl} {xs : List α}, picked us zs pl = some xs → xs.length = pl.length
  | [], xs, e => by cases e; rfl
  | .p i :: pl, xs, e => by
    unfold picked at e
    split at e
    · rename_i u xs' e1 e2
      cases e
      simp [picked_len e2]
    · cases e
  | .k i :: pl, xs, e => by
    unfold picked at e
    split at e
    · rename_i u xs' e1 e2
      cases e
      simp [picked_len e2]
    · cases e
  | .d _ :: _, _, e => by cases e
/-- every parameter is given -/
theorem bnd_all {K : PySem.W.Frag} {x qual : Str} {params : Arguments} {body : List Stmt} {scope : Scope} {kws : List (Str × V)} {f : Addr} {fd : FuncData} {ps : List Str} {sh : Sh} (F : FunD K x qual params body scope [] kws f fd) (hl : sh.pl.length = ps.length)
    (h : ∀ (kV doc pm : Value) (an : Option Addr) (cdv ct : Value) (us zs : List Value), us.length = sh.n → zs.length = sh.ks.length → ∃ xs, picked us zs sh.pl = some xs ∧ bindArgs (PySem.W.fnOf x qual params body scope .none kV doc pm an cdv ct) ⟨us, sh.ks.zip zs⟩ = pure (ps.zip xs)) : Bnd K fd ps sh := by
  obtain ⟨oc, od, dV, kV, doc, pm, an, cdv, ct, osl, rfl, lk, hcd, hD, hK⟩ := F.ex
  rcases hD with ⟨_, rfl⟩ | ⟨e, _⟩
  · refine ⟨fun s us zs vs ys _ h1 h2 r1 r2 => ?_⟩
    obtain ⟨xs, e1, e2⟩ := h kV doc pm an cdv ct us zs h1 h2
    obtain ⟨fs, e3, r3⟩ := picked_V r1 r2 e1
    exact ⟨xs, fs, .of_eq e2, r3, by rw [picked_len e3, hl], fun H L wsv wsy xw q1 q2 e4 => picked_W q1 q2 e3 e4⟩
  · exact absurd rfl e

structure BndAt (T : Tab) (ds : List He.DefD) (sh : Sh) : Prop where
  go : ∀ (K : PySem.W.Frag) (f : Addr) (fd : FuncData) (d : Def) (dd : He.DefD), T[sh.f]? = some d → ds[sh.f]? = some dd → FunD K dd.name dd.qual dd.params dd.body dd.scope (dd.dvs K) (dd.kws K) f fd → Bnd K fd d.ps sh
def freeN : List Str := ["abs", "int", "len", "max", "min", "repr", "list", "tuple", "all", "any", "isinstance", "range", "bool", "str"]
def faOf (T : Tab) : List He.Fa := (T.map fun d => He.Fa.glo d.nm) ++ freeN.map He.Fa.free
def okTops (T : Tab) (shs : List Sh) : List Def → List He.DefD → Bool
  | [], [] => true
  | d :: T', dd :: ds => decide (dd.at_.1 = d.nm) && dd.at_.2.isNone && okD T shs d dd.body dd.scope && okTops T shs T' ds
  | _, _ => false
theorem okTops_get {T : Tab} {shs : List Sh} : ∀ {T' : List Def} {ds : List He.DefD}, okTops T shs T' ds = true → ∀ {f : Nat} {d : Def}, T'[f]? = some d → ∃ dd, ds[f]? = some dd ∧ dd.at_ = (d.nm, none) ∧ okD T shs d dd.body dd.scope = true
  | [], _, _, f, d, e => by simp at e
  | _ :: _, [], h, _, _, _ => by simp [okTops] at h
  | d0 :: T', dd :: ds, h, f, d, e => by
    simp only [okTops, Bool.and_eq_true, decide_eq_true_eq] at h
    obtain ⟨⟨⟨h1, h2⟩, h3⟩, h4⟩ := h
    cases f with
    | zero =>
      simp at e
      subst e
      refine ⟨dd, rfl, ?_, h3⟩
      have h2 := Option.isNone_iff_eq_none.mp h2
      rw [← h1, ← h2]
    | succ f => simpa using okTops_get h4 (by simpa using e)
theorem tops_of {T : Tab} {shs : List Sh} {ds : List He.DefD} {K : PySem.W.Frag} {h : Heap} {mg : Str → Option Value} (X : K.In h) (G : h.Ns mainGlobals mg) (c : He.SaysD (faOf T) ds K) (hok : okTops T shs T ds = true) (hb : ∀ sh ∈ shs, BndAt T ds sh) : Tops T shs K mg where
  fn := fun f d e => by
    obtain ⟨dd, e1, e2, e3⟩ := okTops_get hok e
    obtain ⟨fd, F⟩ := c.def_ f e1
    refine ⟨He.fAd K dd.at_, fd, _, _, _, _, _, _, _, ?_, F, e3, fun sh hm e4 => ?_⟩
    · have := He.glo_ok X G (c.fact f (f := .glo d.nm) (by
        unfold faOf
        rw [List.getElem?_append_left (by simpa using (List.getElem?_eq_some_iff.mp e).1), List.getElem?_map, e]
        rfl))
      rw [this, e2]
      rfl
    · subst e4
      exact (hb sh hm).go K _ fd d dd e e1 F
  free := fun x hx => He.free_ok X G (by
    obtain ⟨i, e⟩ := List.mem_iff_getElem?.mp hx
    exact c.fact (T.length + i) (f := .free x) (by
      unfold faOf
      rw [List.getElem?_append_right (by simp), List.length_map, List.getElem?_map]
      simp only [Nat.add_sub_cancel_left]
      show Option.map _ (freeN[i]?) = _
      unfold freeN
      rw [e]
      rfl))

def scrO (vs : List Value) : Obj := { cls := .type "list", data := .seq vs.toArray }
theorem end_of {P : Program} {w : World} {K : PySem.W.Frag} {mg mb : Str → Option Value} {k : Nat} {fa a : Addr} {fd : FuncData} {x : Str} {sp : Sp} {s : Shared} {vs : List Value} {ns : List Int}
    (kx : K.In s.heap) (gl : s.heap.Ns mainGlobals mg) (bi : s.heap.Ns builtinsNs mb) (bb : ∀ x : Str, x ≠ "__name__" → mb x = bootBuiltins x) (lim : s.heap.NoLimit) (ge : s.gens = #[]) (ha : s.heap.get? a = some (scrO vs)) (ri : IntsAre vs ns) (le : ns.length ≤ sizeLine)
    (room : Room k callerA) (F : ∀ b0 : Heap, K.In b0 → b0.Ns mainGlobals mg → FnG P w K mg b0 CX0 k fa fd [x] sp) (bd : ∀ (s : Shared) (u : Value), BindsTo s fd ⟨[u], []⟩ [(x, u)])
    (hsp : ∀ H : Hp, RV K H [] (.ref a) (.scr ns) → sp [.ref a] H (fun v _ => v = .bl true) fun _ _ _ => False) :
    codeAny (model P w) callerA (.call (.ref fa) ⟨[.ref a], []⟩) (fun r t => r = .ok (.ret (.bool true)) ∧ OldK s.heap t.heap ∧ t.os = s.os ∧ AllBare t.gens) s := by
  have vals : Vals (ns.map V.int) vs := vals_ints ri
  have key : ∀ H : Hp, (∀ b u, H b = some u → b = a ∧ K.lookup a = none ∧ u = .frz (scrO vs) (.lst (ns.map V.int))) → RV K H [] (.ref a) (.scr ns) →
      codeAny (model P w) callerA (.call (.ref fa) ⟨[.ref a], []⟩) (fun r t => r = .ok (.ret (.bool true)) ∧ OldK s.heap t.heap ∧ t.os = s.os ∧ AllBare t.gens) s := by
    intro H only rv
    have up : ∀ {b : Addr} {o : Obj}, s.heap.get? b = some o → H b = none → (hidT s.heap H).get? b = some o := fun e n => hidT_get e n
    have notd : ∀ {b : Addr} {o : Obj}, s.heap.get? b = some o → (∃ es ep, o.data = .dict es ep) → H b = none := by
      rintro b o e ⟨es, ep, d⟩
      cases q : H b with
      | none => rfl
      | some u =>
        obtain ⟨rfl, _, _⟩ := only b u q
        rw [ha] at e
        cases e
        cases d
    have nsup : ∀ {b : Addr} {m : Str → Option Value}, s.heap.Ns b m → (hidT s.heap H).Ns b m := by
      rintro b m ⟨o, es, ep, e, d, r⟩
      exact ⟨o, es, ep, up e (notd e ⟨es, ep, d⟩), d, r⟩
    have kup : K.In (hidT s.heap H) := fun b o e => up (kx b o e) (by
      cases q : H b with
      | none => rfl
      | some u =>
        obtain ⟨rfl, n, _⟩ := only b u q
        rw [n] at e
        cases e)
    have good : HOk P w H s.heap := fun b u q => by
      obtain ⟨rfl, _, rfl⟩ := only b u q
      exact ⟨ha, by rw [List.length_map]; exact le, vs, _, vals, ha⟩
    have lim' : (hidT s.heap H).NoLimit := by
      obtain ⟨mc, h1, h2⟩ := lim
      exact ⟨mc, nsup h1, h2⟩
    have start0 : Env0 P w K mg (hidT s.heap H) callerA [] s H := ⟨rfl, ⟨kup, nsup gl, ⟨mb, nsup bi, bb⟩, lim'⟩, fun b o e => of_hidT e, Nat.le_of_eq (hidT_size _ _), trivial, fun b hb => (List.not_mem_nil hb).elim, good, .of_eq ge⟩
    have go := (F _ kup (nsup gl)).run callerA [] s H ⟨[.ref a], []⟩ [.ref a] [.ref a] _ _ room rfl start0 (bd s (.ref a)) (.cons rfl .nil) rfl (hsp H rv)
    refine codeAny_mono go fun r t q => ?_
    cases r with
    | error e => exact (show False from q).elim
    | ok fl =>
      cases fl with
      | next => exact (show False from q).elim
      | brk => exact (show False from q).elim
      | cont => exact (show False from q).elim
      | ret u =>
        obtain ⟨v, H', e1, e2, e3, e4, e5, e6⟩ := q
        obtain rfl : v = .bl true := e6
        obtain rfl : u = Value.bool true := e5
        refine ⟨rfl, .of_keep fun b o e => ?_, e1, e2⟩
        cases q : H b with
        | none => exact e3.keep b o e q (fun z => (List.not_mem_nil z).elim) (by simp)
        | some u =>
          obtain ⟨rfl, _, rfl⟩ := only b u q
          rw [ha] at e
          rw [← e]
          exact (e4 b _ (e3.frzs b _ _ q)).1
  cases lk : K.lookup a with
  | none =>
    refine key (fun b => if b = a then some (.frz (scrO vs) (.lst (ns.map V.int))) else none) (fun b u q => ?_) (.scr (.inl ⟨scrO vs, by simp⟩))
    by_cases hb : b = a
    · simp [hb] at q
      exact ⟨hb, lk, q.symm⟩
    · simp [hb] at q
  | some o =>
    have e := kx a o lk
    rw [ha] at e
    cases e
    exact key (fun _ => none) (fun b u q => nomatch q) (.scr (.inr ⟨_, vs.toArray, _, lk, rfl, rfl, rfl, by rw [List.size_toArray, ri.length]; exact le, by simpa using vals⟩))
/-- the law walked: its table's last def answers True of every script -/
theorem walk_row {l : PySem.W.OpenLaw} {n : Nat} {q : Program} {loose : List Str} {YP : World → Heap → Prop} {XP : (Str → Option Value) → Heap → Prop} {d : DefRec} {T : Tab} {shs : List Sh} {ds : List He.DefD} {x law : Str} {fu m ix : Nat} {dl : Def} {ddl : He.DefD}
    (hn : l.most = some n) (hn2 : n ≤ sizeLine) (hdf : d.params.defaults = []) (room : Room (m + 1) callerA) (hY : ∀ (w : World) (h : Heap), YP w h → ∃ K : PySem.W.Frag, K.In h ∧ He.SaysD (faOf T) ds K)
    (hok : okTops T shs T ds = true) (hb : ∀ sh ∈ shs, BndAt T ds sh) (hnm : d.name = law) (hl : T[ix]? = some dl) (hd : ds[ix]? = some ddl) (hln : dl.nm = law) (hdv : ddl.dfl = []) (hlp : dl.ps = [x])
    (bd : ∀ (kV doc pm : Value) (an : Option Addr) (cdv ct : Value) (u : Value), bindArgs (PySem.W.fnOf ddl.name ddl.qual ddl.params ddl.body ddl.scope .none kV doc pm an cdv ct) ⟨[u], []⟩ = pure [(x, u)])
    (run : ∀ ns : List Int, ns.length ≤ n → ∃ st, callN T fu (m + 1) ix [.scr ns] [] = .ok (.bl true) st) : PySem.W.WalkO q loose XP YP l.row.toRowW d [] (fun f vs => PySem.call f vs) := by
  refine Att.attach_call hn hdf fun w s₀ s mg mb fa o pm cd doc a vs ns G Y ho hfd hcd hmg hobj hints hlen hg => ?_
  obtain ⟨K, KX, c⟩ := hY w _ Y
  have tops := tops_of KX G.T.g c hok hb
  obtain ⟨fd, F⟩ := c.def_ ix hd
  obtain ⟨dd2, e1, e2, e3⟩ := okTops_get hok hl
  rw [hd] at e1
  cases e1
  have ea : fa = He.fAd K ddl.at_ := by
    have := He.glo_ok KX G.T.g (c.fact ix (f := .glo dl.nm) (by
      unfold faOf
      rw [List.getElem?_append_left (by simpa using (List.getElem?_eq_some_iff.mp hl).1), List.getElem?_map, hl]
      rfl))
    rw [hln, ← hnm, hmg] at this
    rw [e2, hln, ← hnm]
    cases this
    rfl
  subst ea
  have F1 : FunD K ddl.name ddl.qual ddl.params ddl.body ddl.scope [] (ddl.kws K) (He.fAd K ddl.at_) fd := by
    have z : ddl.dvs K = [] := by
      unfold He.DefD.dvs
      rw [hdv]
      rfl
    rw [← z]
    exact F
  refine end_of KX G.T.g G.T.b G.T.builtins G.T.nolimit hg hobj hints (Nat.le_trans hlen hn2) room (fd := fd) (x := x) (sp := spI K (runD (callN T fu m) fu dl)) (fun b0 _ _ => ?_) (fun s u => ?_) fun H rv => ?_
  · rw [← hlp]
    exact def_ok F e3 (fns_ok fu tops m)
  · exact FunD.bindsA (ps := [x]) F1 (fun kV doc pm an cdv ct us h => by
      obtain ⟨u, rfl⟩ := List.length_eq_one_iff.mp h
      exact bd kV doc pm an cdv ct u) s [u] rfl
  · refine ⟨[], [], [.scr ns], SR.nil K H, .cons rv .nil, ?_⟩
    obtain ⟨st, e⟩ := run ns hlen
    have e' : runD (callN T fu m) fu dl [.scr ns] [] = .ok (.bl true) st := by
      simpa only [callN, hl] using e
    rw [e']
    intro v H' L' _ _ q
    cases q
    rfl
end Mi

namespace Mi
open PySem

/-- a cell of the old store stays, but for those in X -/
def Fr (X : Nat → Prop) (a b : Sto) : Prop := a.length ≤ b.length ∧ ∀ i, i < a.length → ¬ X i → b[i]? = a[i]?
def nix : Nat → Prop := fun _ => False
section
variable {X Y : Nat → Prop} {a b c : Sto}
theorem Fr.refl (X : Nat → Prop) (a : Sto) : Fr X a a := ⟨Nat.le_refl _, fun _ _ _ => rfl⟩
theorem Fr.weak (h : Fr X a b) (w : ∀ i, i < a.length → X i → Y i) : Fr Y a b := ⟨h.1, fun i hi n => h.2 i hi fun x => n (w i hi x)⟩
theorem Fr.nix (h : Fr nix a b) : Fr X a b := h.weak fun _ _ x => x.elim
theorem Fr.trans (h : Fr X a b) (k : Fr X b c) : Fr X a c := ⟨Nat.le_trans h.1 k.1, fun i hi n => (k.2 i (Nat.lt_of_lt_of_le hi h.1) n).trans (h.2 i hi n)⟩
theorem Fr.get (h : Fr X a b) {i : Nat} {d : Cell} (e : a[i]? = some d) (n : ¬ X i) : b[i]? = some d := by rw [h.2 i (List.getElem?_eq_some_iff.mp e).1 n, e]
theorem Fr.app (X : Nat → Prop) (a m : Sto) : Fr X a (a ++ m) := ⟨by simp, fun i hi _ => List.getElem?_append_left hi⟩
theorem Fr.set {i : Nat} (h : X i) (d : Cell) : Fr X a (a.set i d) := ⟨by simp, fun j hj n => by
  rw [List.getElem?_set_ne]
  rintro rfl
  exact n h⟩
/-- cells behind the old ones do not count -/
theorem Fr.trans2 (h : Fr X a b) (k : Fr Y b c) (w : ∀ i, i < a.length → Y i → X i) : Fr X a c := ⟨Nat.le_trans h.1 k.1, fun i hi n => (k.2 i (Nat.lt_of_lt_of_le hi h.1) fun y => n (w i hi y)).trans (h.2 i hi n)⟩
theorem app_get (a : Sto) (d : Cell) : (a ++ [d])[a.length]? = some d := by simp
theorem Fr.take (h : Fr Mi.nix a b) : b.take a.length = a := by
  apply List.ext_getElem?
  intro i
  by_cases hi : i < a.length
  · rw [List.getElem?_take_of_lt hi]
    exact h.2 i hi fun x => x
  · rw [List.getElem?_eq_none (by rw [List.length_take]; omega), List.getElem?_eq_none (by omega)]
end

theorem okOld_of (n : Nat) : ∀ {a b : Sto}, (∀ (i : Nat) (c : Cell), a[i]? = some c → ∃ c' : Cell, b[i]? = some c' ∧ (c' = c ∨ Cell.und n c' = true)) → okOld n a b = true
  | [], b, _ => by cases b <;> rfl
  | c :: a, [], h => by
    obtain ⟨c', e, _⟩ := h 0 c rfl
    simp at e
  | c :: a, d :: b, h => by
    obtain ⟨c', e, q⟩ := h 0 c rfl
    simp at e
    subst e
    rw [okOld, Bool.and_eq_true, Bool.or_eq_true]
    refine ⟨?_, okOld_of n fun i c e => h (i + 1) c e⟩
    rcases q with rfl | q
    · exact .inl (Cell.beq_refl _)
    · exact .inr q
theorem okOld_fr {a b : Sto} (n : Nat) (h : Fr nix a b) : okOld n a b = true := okOld_of n fun i c e => ⟨c, h.get e fun x => x, .inl rfl⟩
/-- the cells in X hold nothing new -/
theorem okOld_frX {X : Nat → Prop} {a b : Sto} (n : Nat) (h : Fr X a b) (k : ∀ i, i < a.length → X i → ∃ c : Cell, b[i]? = some c ∧ Cell.und n c = true) : okOld n a b = true := okOld_of n fun i c e => by
  have hi := (List.getElem?_eq_some_iff.mp e).1
  by_cases x : X i
  · obtain ⟨c', e', u⟩ := k i hi x
    exact ⟨c', e', .inr u⟩
  · exact ⟨c, h.get e x, .inl rfl⟩
theorem gc_und {a b : Sto} {w : W} (h : okOld a.length a b = true) (u : w.und a.length = true) : gc a b w = .ok w (b.take a.length) := by
  unfold gc
  rw [if_pos h, if_pos u]
theorem gc_flat {a b : Sto} {w : W} (h : Fr nix a b) (u : w.und a.length = true) : gc a b w = .ok w a := by rw [gc_und (okOld_fr _ h) u, h.take]
/-- a fresh list comes back -/
theorem gc_ref {a b : Sto} {k : Nat} {c : Cell} (h : okOld a.length a b = true) (hk : a.length ≤ k) (e : b[k]? = some c) : (c.und a.length = true ∧ gc a b (.ref k) = .ok (.ref a.length) (b.take a.length ++ [c])) ∨ (c.und a.length = false ∧ gc a b (.ref k) = .ok (.ref k) b) := by
  have hu : W.und a.length (.ref k) = false := by simp [W.und]; omega
  unfold gc
  rw [if_pos h, if_neg (by rw [hu]; simp)]
  simp only [e]
  cases q : c.und a.length with
  | true => exact .inl ⟨rfl, by simp⟩
  | false => exact .inr ⟨rfl, by simp⟩

section
variable {f : W → Sl → Sto → RS} {P : List W → Sl → Sto → Prop}
/-- P at what is still to do -/
theorem loopF_to (chk : Chk) : ∀ (ws : List W) (r : Sl) (st : Sto), P ws r st → (∀ us r st, P us r st → chk.ok st = true) → (∀ w us r st, P (w :: us) r st → (∃ r' st', f w r st = .nx r' st' ∧ P us r' st') ∨ (∃ r' st', f w r st = .cont r' st' ∧ P us r' st')) → ∃ r' st', loopF chk f ws r st = .nx r' st' ∧ P [] r' st'
  | [], r, st, h, hc, _ => ⟨r, st, by rw [loopF, if_pos (hc _ _ _ h)], h⟩
  | w :: ws, r, st, h, hc, hs => by
    rw [loopF, if_pos (hc _ _ _ h)]
    rcases hs w ws r st h with ⟨r', st', e, h'⟩ | ⟨r', st', e, h'⟩
    · rw [e]
      exact loopF_to chk ws r' st' h' hc hs
    · rw [e]
      exact loopF_to chk ws r' st' h' hc hs
/-- the invariant alike at each turn -/
theorem loopF_inv {P : Sl → Sto → Prop} {ws : List W} {r : Sl} {st : Sto} (h : P r st) (hs : ∀ w ∈ ws, ∀ r st, P r st → ∃ r' st', f w r st = .nx r' st' ∧ P r' st') : ∃ r' st', loopF .no f ws r st = .nx r' st' ∧ P r' st' := by
  obtain ⟨r', st', e, h'⟩ := loopF_to (P := fun us r st => P r st ∧ ∀ w ∈ us, w ∈ ws) (f := f) .no ws r st ⟨h, fun _ h => h⟩ (fun _ _ _ _ => rfl) (fun w us r st h => by
    obtain ⟨r', st', e, h'⟩ := hs w (h.2 w (by simp)) r st h.1
    exact .inl ⟨r', st', e, h', fun x hx => h.2 x (by simp [hx])⟩)
  exact ⟨r', st', e, h'.1⟩
end
theorem loopC_to {f : W → Sto → List W → R (List W)} {P : List W → Sto → List W → Prop} (chk : Chk) : ∀ (ws : List W) (st : Sto) (acc : List W), P ws st acc → (∀ us st acc, P us st acc → chk.ok st = true) → (∀ w us st acc, P (w :: us) st acc → ∃ acc' st', f w st acc = .ok acc' st' ∧ P us st' acc') → ∃ acc' st', loopC chk f ws st acc = .ok acc' st' ∧ P [] st' acc'
  | [], st, acc, h, hc, _ => ⟨acc, st, by rw [loopC, if_pos (hc _ _ _ h)], h⟩
  | w :: ws, st, acc, h, hc, hs => by
    rw [loopC, if_pos (hc _ _ _ h)]
    obtain ⟨acc', st', e, h'⟩ := hs w ws st acc h
    rw [e]
    exact loopC_to chk ws st' acc' h' hc hs
theorem loopC_inv {f : W → Sto → List W → R (List W)} {P : Sto → List W → Prop} {ws : List W} {st : Sto} {acc : List W} (h : P st acc) (hs : ∀ w ∈ ws, ∀ st acc, P st acc → ∃ acc' st', f w st acc = .ok acc' st' ∧ P st' acc') : ∃ acc' st', loopC .no f ws st acc = .ok acc' st' ∧ P st' acc' := by
  obtain ⟨acc', st', e, h'⟩ := loopC_to (P := fun us st acc => P st acc ∧ ∀ w ∈ us, w ∈ ws) (f := f) .no ws st acc ⟨h, fun _ h => h⟩ (fun _ _ _ _ => rfl) (fun w us st acc h => by
    obtain ⟨acc', st', e, h'⟩ := hs w (h.2 w (by simp)) st acc h.1
    exact ⟨acc', st', e, h', fun x hx => h.2 x (by simp [hx])⟩)
  exact ⟨acc', st', e, h'.1⟩

theorem dats_nil (h : Nat → Option PyData) : W.dats h [] = some [] := by rw [W.dats]
theorem dats_cons {h : Nat → Option PyData} {w : W} {ws : List W} {d : PyData} {ds : List PyData} (e : W.dat h w = some d) (e' : W.dats h ws = some ds) : W.dats h (w :: ws) = some (d :: ds) := by rw [W.dats, e, e']
theorem dats_map {α : Type} {h : Nat → Option PyData} {f : α → W} {g : α → PyData} : ∀ {xs : List α}, (∀ x ∈ xs, W.dat h (f x) = some (g x)) → W.dats h (xs.map f) = some (xs.map g)
  | [], _ => dats_nil h
  | x :: xs, e => dats_cons (e x (by simp)) (dats_map fun y hy => e y (by simp [hy]))
theorem dats_app {h : Nat → Option PyData} : ∀ {xs ys : List W} {ds es : List PyData}, W.dats h xs = some ds → W.dats h ys = some es → W.dats h (xs ++ ys) = some (ds ++ es)
  | [], ys, ds, es, e, e' => by
    rw [dats_nil] at e
    cases e
    exact e'
  | x :: xs, ys, ds, es, e, e' => by
    rw [W.dats] at e
    split at e
    · rename_i d ds' h1 h2
      cases e
      exact dats_cons h1 (dats_app h2 e')
    · cases e
theorem look_lst {st : Sto} {n k : Nat} {ws : List W} {ds : List PyData} (e : st[k]? = some (.lst ws)) (h : W.dats (look st n) ws = some ds) : look st (n + 1) k = some (.list ds) := by
  rw [look, e]
  simp [h]
mutual
def W.flat : W → Option PyData
  | .non => some .none
  | .bl b => some (.bool b)
  | .int i => some (.int i)
  | .str s => some (.str s)
  | .tup ws => (W.flats ws).map PyData.tuple
  | _ => none
def W.flats : List W → Option (List PyData)
  | [] => some []
  | a :: as => match W.flat a, W.flats as with
    | some d, some ds => some (d :: ds)
    | _, _ => none
end
mutual
theorem flat_dat {h : Nat → Option PyData} : ∀ {w : W} {d : PyData}, W.flat w = some d → W.dat h w = some d
  | .non, d, e => by simpa [W.flat, W.dat] using e
  | .bl b, d, e => by simpa [W.flat, W.dat] using e
  | .int i, d, e => by simpa [W.flat, W.dat] using e
  | .str i, d, e => by simpa [W.flat, W.dat] using e
  | .ref i, d, e => by simp [W.flat] at e
  | .scr i, d, e => by simp [W.flat] at e
  | .tup ws, d, e => by
    rw [W.flat] at e
    rw [W.dat]
    cases q : W.flats ws with
    | none => rw [q] at e; cases e
    | some ds =>
      rw [q] at e
      rw [flats_dats q]
      exact e
theorem flats_dats {h : Nat → Option PyData} : ∀ {ws : List W} {ds : List PyData}, W.flats ws = some ds → W.dats h ws = some ds
  | [], ds, e => by simpa [W.flats, W.dats] using e
  | w :: ws, ds, e => by
    rw [W.flats] at e
    split at e
    · rename_i d ds' h1 h2
      cases e
      exact dats_cons (flat_dat h1) (flats_dats h2)
    · cases e
end

mutual
theorem dat_mono {h h' : Nat → Option PyData} (m : ∀ k d, h k = some d → h' k = some d) : ∀ {w : W} {d : PyData}, W.dat h w = some d → W.dat h' w = some d
  | .non, d, e => by simpa [W.dat] using e
  | .bl b, d, e => by simpa [W.dat] using e
  | .int i, d, e => by simpa [W.dat] using e
  | .str i, d, e => by simpa [W.dat] using e
  | .ref i, d, e => by
    rw [W.dat] at e ⊢
    exact m _ _ e
  | .scr i, d, e => by simp [W.dat] at e
  | .tup ws, d, e => by
    rw [W.dat] at e ⊢
    cases q : W.dats h ws with
    | none => rw [q] at e; cases e
    | some ds =>
      rw [q] at e
      rw [dats_mono m q]
      exact e
theorem dats_mono {h h' : Nat → Option PyData} (m : ∀ k d, h k = some d → h' k = some d) : ∀ {ws : List W} {ds : List PyData}, W.dats h ws = some ds → W.dats h' ws = some ds
  | [], ds, e => by simpa [W.dats] using e
  | w :: ws, ds, e => by
    rw [W.dats] at e
    split at e
    · rename_i d ds' h1 h2
      cases e
      exact dats_cons (dat_mono m h1) (dats_mono m h2)
    · cases e
end
theorem look_fr {a b : Sto} (f : Fr nix a b) : ∀ n k d, look a n k = some d → look b n k = some d
  | 0, k, d, e => by simp [look] at e
  | n + 1, k, d, e => by
    rw [look] at e
    split at e
    · rename_i ws h1
      cases q : W.dats (look a n) ws with
      | none => rw [q] at e; cases e
      | some ds =>
        rw [q] at e
        cases e
        exact look_lst (f.get h1 fun x => x) (dats_mono (fun k d => look_fr f n k d) q)
    · cases e
theorem dat_fr {a b : Sto} (f : Fr nix a b) {w : W} {d : PyData} (e : dat a w = some d) : dat b w = some d := dat_mono (fun k d => look_fr f 8 k d) e

mutual
def tiny : PyData → Bool
  | .none | .bool _ => true
  | .int i => decide (i.natAbs < 10 ^ 12)
  | .str x => PyData.strOk x
  | .list xs => tinys xs
  | .tuple xs => tinys xs
  | .dict _ => false
def tinys : List PyData → Bool
  | [] => true
  | x :: xs => tiny x && tinys xs
end
theorem tinys_of : ∀ {xs : List PyData}, (∀ x ∈ xs, tiny x = true) → tinys xs = true
  | [], _ => by simp [tinys]
  | x :: xs, h => by
    simp only [tinys, Bool.and_eq_true]
    exact ⟨h x (by simp), tinys_of fun y hy => h y (by simp [hy])⟩
theorem depths_le {n : Nat} : ∀ {xs : List PyData}, (∀ x ∈ xs, x.depth ≤ n) → PyData.depthAll xs ≤ n
  | [], _ => by simp [PyData.depthAll]
  | x :: xs, h => by
    simp only [PyData.depthAll]
    exact Nat.max_le.mpr ⟨h x (by simp), depths_le fun y hy => h y (by simp [hy])⟩
theorem weights_le {n : Nat} : ∀ {xs : List PyData}, (∀ x ∈ xs, x.weight ≤ n) → PyData.weightAll xs ≤ (n + 1) * xs.length
  | [], _ => by simp [PyData.weightAll]
  | x :: xs, h => by
    simp only [PyData.weightAll, List.length_cons]
    have h1 := h x (by simp)
    have h2 := weights_le (n := n) (xs := xs) fun y hy => h y (by simp [hy])
    rw [Nat.mul_succ]
    omega
mutual
theorem tiny_lay : ∀ {d : PyData}, tiny d = true → d.canLay0 = true ∧ d.intsShort 13 = true ∧ d.showable = true ∧ d.hasDict = false
  | .none, _ => ⟨rfl, rfl, rfl, rfl⟩
  | .bool _, _ => ⟨rfl, rfl, rfl, rfl⟩
  | .int i, h => by
    simp only [tiny, decide_eq_true_eq] at h
    refine ⟨rfl, ?_, ?_, rfl⟩
    · simp only [PyData.intsShort, decide_eq_true_eq]
      exact PyData.shown_int_le h
    · simp only [PyData.showable, decide_eq_true_eq]
      by_cases z : i.natAbs = 0
      · rw [z]; decide
      · have := (Nat.log2_lt z).mpr (show i.natAbs < 2 ^ 1920 from Nat.lt_of_lt_of_le h (Nat.le_trans (by decide : 10 ^ 12 ≤ 2 ^ 64) (Nat.pow_le_pow_right (by decide) (by decide))))
        exact this
  | .str x, h => by
    simp only [tiny] at h
    exact ⟨by simpa [PyData.canLay0] using h, by simp [PyData.intsShort], by simp [PyData.showable], by simp [PyData.hasDict]⟩
  | .list xs, h => by
    simp only [tiny] at h
    obtain ⟨h1, h2, h3, h4⟩ := tinys_lay h
    exact ⟨by simpa [PyData.canLay0] using h1, by simpa [PyData.intsShort] using h2, by simpa [PyData.showable] using h3, by simpa [PyData.hasDict] using h4⟩
  | .tuple xs, h => by
    simp only [tiny] at h
    obtain ⟨h1, h2, h3, h4⟩ := tinys_lay h
    exact ⟨by simpa [PyData.canLay0] using h1, by simpa [PyData.intsShort] using h2, by simpa [PyData.showable] using h3, by simpa [PyData.hasDict] using h4⟩
  | .dict _, h => by simp [tiny] at h
theorem tinys_lay : ∀ {xs : List PyData}, tinys xs = true → PyData.canLayAll0 xs = true ∧ PyData.intsShortAll 13 xs = true ∧ PyData.showableAll xs = true ∧ PyData.hasDictAll xs = false
  | [], _ => ⟨by simp [PyData.canLayAll0], by simp [PyData.intsShortAll], by simp [PyData.showableAll], by simp [PyData.hasDictAll]⟩
  | x :: xs, h => by
    simp only [tinys, Bool.and_eq_true] at h
    obtain ⟨a1, a2, a3, a4⟩ := tiny_lay h.1
    obtain ⟨h1, h2, h3, h4⟩ := tinys_lay h.2
    exact ⟨by simp [PyData.canLayAll0, a1, h1], by simp [PyData.intsShortAll, a2, h2], by simp [PyData.showableAll, a3, h3], by simp [PyData.hasDictAll, a4, h4]⟩
end
/-- small, and no more than 2 ^ 20 of it -/
structure Fine (d : PyData) : Prop where
  tiny : tiny d = true
  deep : d.depth ≤ 64
  wt : d.weight ≤ 2 ^ 20
theorem Fine.shaped {d : PyData} (h : Fine d) : SeqAt.shaped d = true := by
  unfold SeqAt.shaped
  rw [(tiny_lay h.tiny).1, decide_eq_true h.deep]
  rfl
theorem Fine.shown {d : PyData} (h : Fine d) : d.shown.length ≤ sizeLine := by
  obtain ⟨h1, h2, _, _⟩ := tiny_lay h.tiny
  have := PyProof.Rows.shown_le13 (d := d) (by
    show (PyData.canLay0 d && decide (PyData.depth d ≤ 64) && decide (PyData.weight d ≤ 2 ^ 20)) = true
    rw [h1, decide_eq_true h.deep, decide_eq_true h.wt]
    rfl) h2
  exact Nat.le_trans this (by decide)
theorem repr_ok {st : Sto} {w : W} {d : PyData} (e : dat st w = some d) (h : Fine d) : biW .repr [w] st = .ok (.str d.shown) st := by
  obtain ⟨_, _, h3, h4⟩ := tiny_lay h.tiny
  simp only [biW, e]
  rw [if_pos ⟨h3, h4, h.deep, h.shown⟩]
theorem eqW_dat {st : Sto} {x y : W} {d e : PyData} (h1 : dat st x = some d) (h2 : dat st y = some e) (s1 : SeqAt.shaped d = true) (s2 : SeqAt.shaped e = true) : eqW st x y = some (PyData.eqv d e) := by
  unfold eqW
  cases q : strsW x y with
  | none => simp [h1, h2, s1, s2]
  | some p =>
    obtain ⟨a, b⟩ := p
    have hx : x = .str a ∧ y = .str b := by
      cases x <;> cases y <;> simp [strsW] at q
      exact ⟨by rw [q.1], by rw [q.2]⟩
    obtain ⟨rfl, rfl⟩ := hx
    simp [dat, W.dat] at h1 h2
    subst h1 h2
    show some (decide (a = b)) = some (PyData.eqv (.str a) (.str b))
    rw [PyData.eqv]
    congr 1
theorem eqW_str (st : Sto) (a b : Str) : eqW st (.str a) (.str b) = some (decide (a = b)) := rfl
theorem eqW_int (st : Sto) (a b : Int) : eqW st (.int a) (.int b) = some (decide (a = b)) := by
  rw [eqW_dat (d := .int a) (e := .int b) (by simp [dat, W.dat]) (by simp [dat, W.dat]) (by simp [SeqAt.shaped, PyData.canLay0, PyData.depth]) (by simp [SeqAt.shaped, PyData.canLay0, PyData.depth])]
  rw [PyData.eqv]
  congr 1

section
variable (st : Sto)
theorem binW_add (i j : Int) : binW .Add (.int i) (.int j) st = .ok (.int (i + j)) st := rfl
theorem binW_addT (a b : List W) : binW .Add (.tup a) (.tup b) st = if a.length + b.length ≤ sizeLine then .ok (.tup (a ++ b)) st else .stk := rfl
theorem binW_addL (i j : Nat) : binW .Add (.ref i) (.ref j) st = match st[i]?, st[j]? with
    | some (.lst a), some (.lst b) => if a.length + b.length ≤ sizeLine then .ok (.ref st.length) (st ++ [.lst (a ++ b)]) else .stk
    | _, _ => .stk := rfl
theorem binW_sub (i j : Int) : binW .Sub (.int i) (.int j) st = .ok (.int (i - j)) st := rfl
theorem binW_mul (i j : Int) : binW .Mult (.int i) (.int j) st = if (-(2 ^ 64) < i ∧ i < 2 ^ 64) ∨ (-(2 ^ 64) < j ∧ j < 2 ^ 64) then .ok (.int (i * j)) st else .stk := rfl
theorem binW_div (i j : Int) : binW .FloorDiv (.int i) (.int j) st = if j ≠ 0 ∧ j.natAbs < 1073741824 then .ok (.int (i.fdiv j)) st else .stk := rfl
theorem binW_mod (i j : Int) : binW .Mod (.int i) (.int j) st = if j ≠ 0 then .ok (.int (i.fmod j)) st else .stk := rfl
theorem binW_pow (i j : Int) : binW .Pow (.int i) (.int j) st = if 0 ≤ j ∧ j ≤ 1000000 ∧ i.natAbs < 2 ^ 64 then .ok (.int (i ^ j.toNat)) st else .stk := rfl
theorem cmpW_lt (i j : Int) : cmpW .Lt (.int i) (.int j) st = .ok (.bl (decide (i < j))) st := rfl
theorem cmpW_le (i j : Int) : cmpW .LtE (.int i) (.int j) st = .ok (.bl (decide (i ≤ j))) st := rfl
theorem cmpW_gt (i j : Int) : cmpW .Gt (.int i) (.int j) st = .ok (.bl (decide (j < i))) st := rfl
theorem cmpW_ge (i j : Int) : cmpW .GtE (.int i) (.int j) st = .ok (.bl (decide (j ≤ i))) st := rfl
theorem cmpW_eq (x y : W) : cmpW .Eq x y st = match eqW st x y with
    | some b => .ok (.bl b) st
    | none => .stk := rfl
theorem cmpW_ne (x y : W) : cmpW .NotEq x y st = match eqW st x y with
    | some b => .ok (.bl (!b)) st
    | none => .stk := rfl
theorem ixW_tup (ws : List W) (i : Int) : ixW (.tup ws) (.int i) st = match L2.atI ws i with
    | some w => .ok w st
    | none => .stk := rfl
theorem ixW_scr (ns : List Int) (i : Int) : ixW (.scr ns) (.int i) st = match (L2.atI ns i).map W.int with
    | some w => .ok w st
    | none => .stk := rfl
theorem ixW_ref (r : Nat) (i : Int) : ixW (.ref r) (.int i) st = match (match st[r]? with
    | some (.lst ws) => L2.atI ws i
    | _ => none) with
    | some w => .ok w st
    | none => .stk := rfl
theorem setW_ref (r : Nat) (k : Int) (w : W) : setW (.ref r) (.int k) w st = match st[r]? with
    | some (.lst xs) => match L2.ixN xs.length k with
      | some j => .ok () (st.set r (.lst (xs.set j w)))
      | none => .stk
    | _ => .stk := rfl
theorem slW_tup (ws : List W) (lo hi : Option Int) : slW (.tup ws) lo hi st = .ok (.tup (cutW ws lo hi)) st := rfl
theorem slW_ref (r : Nat) (lo hi : Option Int) : slW (.ref r) lo hi st = match st[r]? with
    | some (.lst ws) => .ok (.ref st.length) (st ++ [.lst (cutW ws lo hi)])
    | _ => .stk := rfl
theorem srcW_tup (ws : List W) : srcW (.tup ws) st = .ok (.no, ws) st := rfl
theorem srcW_ref (r : Nat) : srcW (.ref r) st = match st[r]? with
    | some (.lst ws) => .ok (.cell r (.lst ws), ws) st
    | _ => .stk := rfl
theorem bmW_app (r : Nat) (w : W) : bmW .append (.ref r) [w] st = match st[r]? with
    | some (.lst xs) => if xs.length < sizeLine then .ok .non (st.set r (.lst (xs ++ [w]))) else .stk
    | _ => .stk := rfl
theorem biW_abs (i : Int) : biW .abs [.int i] st = .ok (.int (if i < 0 then -i else i)) st := rfl
theorem biW_intb (b : Bool) : biW .int [.bl b] st = .ok (.int (if b then 1 else 0)) st := rfl
theorem biW_lenS (ns : List Int) : biW .len [.scr ns] st = .ok (.int ns.length) st := rfl
theorem biW_lenT (ws : List W) : biW .len [.tup ws] st = .ok (.int ws.length) st := rfl
theorem biW_lenL (r : Nat) : biW .len [.ref r] st = match st[r]? with
    | some (.lst ws) => .ok (.int ws.length) st
    | _ => .stk := rfl
theorem biW_max (i j : Int) : biW .max2 [.int i, .int j] st = .ok (.int (if j > i then j else i)) st := rfl
theorem biW_min (i j : Int) : biW .min2 [.int i, .int j] st = .ok (.int (if j < i then j else i)) st := rfl
theorem biW_listL (r : Nat) : biW .list [.ref r] st = match st[r]? with
    | some (.lst ws) => .ok (.ref st.length) (st ++ [.lst ws])
    | _ => .stk := by
  show (match (match st[r]? with
    | some (.lst ws) => some ws
    | _ => none) with
    | some ws => .ok (.ref st.length) (st ++ [.lst ws])
    | none => .stk : R W) = _
  cases st[r]? with
  | none => rfl
  | some c => cases c; rfl
theorem biW_listT (ws : List W) : biW .list [.tup ws] st = .ok (.ref st.length) (st ++ [.lst ws]) := rfl
theorem biW_tupT (ws : List W) : biW .tuple [.tup ws] st = .ok (.tup ws) st := rfl
theorem isTy_ref (t : Ty) (r : Nat) : isTy t (.ref r) st = match st[r]? with
    | some (.lst _) => .ok (.bl (decide (t = .list))) st
    | _ => .stk := rfl
theorem withT_nm {α : Type} (i : Nat) (w : W) (r : Sl) (k : Sl → α) (d : α) : withT (.nm i) w r k d = k (r.set i (some w)) := rfl
theorem boolR_bl {α : Type} (b : Bool) (k : Bool → Sto → R α) : boolR (.ok (.bl b) st) k = k b st := rfl
theorem boolS_bl (b : Bool) (k : Bool → Sto → RS) : boolS (.ok (.bl b) st) k = k b st := rfl
theorem toS_ok {α : Type} (a : α) (k : α → Sto → RS) : R.toS (.ok a st) k = k a st := rfl
theorem seq_nx (r : Sl) (k : Sl → Sto → RS) : RS.seq (.nx r st) k = k r st := rfl
theorem seq_ret (w : W) (k : Sl → Sto → RS) : RS.seq (.ret w st) k = .ret w st := rfl
theorem out_ret (w : W) : RS.out (.ret w st) = .ok w st := rfl
theorem out_nx (r : Sl) : RS.out (.nx r st) = .ok .non st := rfl
theorem Rgc_ok (s : Sto) (w : W) : R.gc s (.ok w st) = gc s st w := rfl
end
theorem eqvs_nil : ∀ (ds : List PyData), PyData.eqvAll ds [] = ds.isEmpty
  | [] => by simp [PyData.eqvAll]
  | _ :: _ => by simp [PyData.eqvAll]
end Mi

namespace Mi
open PySem

def takeB : List S := [
  .ite (.cmp .Gt (.ix (.v 0) (.int 0)) (.int 0)) [
    .asg (.nm 2) (.bin .Mod (.ix (.v 0) (.int 0)) (.v 1)),
    .setI (.v 0) (.int 0) (.bin .FloorDiv (.ix (.v 0) (.int 0)) (.v 1)),
    .ret (.v 2)] [],
  .setI (.v 0) (.int 1) (.bin .Mod (.bin .Add (.bin .Mult (.ix (.v 0) (.int 1)) (.int 48271)) (.int 12345)) (.int 2147483647)),
  .ret (.bin .Mod (.bin .FloorDiv (.bin .Mod (.bin .Mult (.ix (.v 0) (.int 1)) (.ix (.v 0) (.int 1))) (.int 2147483629)) (.int 64)) (.v 1))]
def poolB : List S := [
  .asg (.nm 2) (.int 0),
  .ite (.cmp .Lt (.v 1) (.bi .len [(.v 0)])) [
    .asg (.nm 2) (.bi .abs [(.ix (.v 0) (.v 1))])] [],
  .asg (.nm 3) (.bin .Mod (.bin .Mult (.bin .Add (.bin .Add (.bin .Add (.bin .Mod (.v 2) (.int 2147483629)) (.bin .Mult (.bin .Mult (.int 7919) (.v 1)) (.v 1))) (.bin .Mult (.int 31) (.v 1))) (.int 17)) (.int 48271)) (.int 2147483647)),
  .ret (.lst [(.bin .Mult (.v 2) (.bi .int [(.cmp .GtE (.v 2) (.bin .Pow (.int 10) (.int 18)))])), (.bin .Mod (.bin .Mult (.v 3) (.v 3)) (.int 2147483629))])]
/-- a pool: two whole numbers, none below 0 -/
def Pool (st : Sto) (p : Nat) : Prop := ∃ c m : Int, st[p]? = some (.lst [.int c, .int m]) ∧ 0 ≤ c ∧ 0 ≤ m
theorem Pool.fr {X : Nat → Prop} {a b : Sto} {p : Nat} (h : Pool a p) (f : Fr X a b) (n : ¬ X p) : Pool b p := by
  obtain ⟨c, m, e, h1, h2⟩ := h
  exact ⟨c, m, f.get e n, h1, h2⟩
section
variable {cl : Nat → List W → Sto → R W} {fu : Nat} {d : Def} {st : Sto}
def one (p : Nat) : Nat → Prop := fun i => i = p
theorem Fr.one (a : Sto) (p : Nat) (c : Cell) : Fr (one p) a (a.set p c) := Fr.set (X := Mi.one p) rfl c
theorem fmod_lt {a b : Int} (h : 0 < b) : 0 ≤ a.fmod b ∧ a.fmod b < b := ⟨Int.fmod_nonneg_of_pos a h, Int.fmod_lt_of_pos a h⟩
theorem fdiv_nn {a b : Int} (h : 0 ≤ a) (k : 0 < b) : 0 ≤ a.fdiv b := Int.fdiv_nonneg h (Int.le_of_lt k)
theorem set_take (a : Sto) (p : Nat) (c : Cell) : (a.set p c).take a.length = a.set p c := List.take_of_length_le (by simp)
theorem gc_set {a : Sto} {p : Nat} {c : Cell} {w : W} (u : w.und a.length = true) (k : c.und a.length = true) : gc a (a.set p c) w = .ok w (a.set p c) := by
  rw [gc_und _ u, set_take]
  refine okOld_frX (X := one p) _ (Fr.one _ _ c) fun i hi x => ?_
  cases x
  exact ⟨c, by rw [List.getElem?_set_self hi], k⟩
theorem take_run {p : Nat} {many : Int} (hb : d.body = takeB) (hp : d.ps.length = 2) (hN : d.N.length = 3) (hpo : Pool st p) (h1 : 0 < many) (h2 : many < 1073741824) :
    ∃ (x : Int) (st' : Sto), runD cl fu d [.ref p, .int many] st = .ok (.int x) st' ∧ 0 ≤ x ∧ x < many ∧ Pool st' p ∧ Fr (one p) st st' ∧ st'.length = st.length := by
  obtain ⟨c, m, e, hc, hm⟩ := hpo
  have hlt := (List.getElem?_eq_some_iff.mp e).1
  have a0 : ∀ a b : W, L2.atI [a, b] 0 = some a := fun _ _ => rfl
  have a1 : ∀ a b : W, L2.atI [a, b] 1 = some b := fun _ _ => rfl
  have i0 : L2.ixN 2 0 = some 0 := rfl
  have i1 : L2.ixN 2 1 = some 1 := rfl
  have nz : many ≠ 0 := by omega
  have nn : many.natAbs < 1073741824 := by omega
  by_cases hcz : 0 < c
  · refine ⟨c.fmod many, st.set p (.lst [.int (c.fdiv many), .int m]), ?_, (fmod_lt h1).1, (fmod_lt h1).2, ⟨c.fdiv many, m, by rw [List.getElem?_set_self hlt], fdiv_nn hc h1, hm⟩, Fr.one _ _ _, by simp⟩
    unfold runD
    rw [hb, hp, hN]
    simp [takeB, evSs, evS, evE, evEs, withT, bindT, boolS_bl, toS_ok, seq_nx, seq_ret, out_ret, Rgc_ok, cmpW_gt, ixW_ref, binW_mod, binW_div, setW_ref, e, a0, a1, i0, i1, hcz, nz, nn]
    refine gc_set ?_ ?_ <;> simp [W.und, Cell.und, W.unds]
  · have hq : 0 ≤ (m * 48271 + 12345).fmod 2147483647 ∧ (m * 48271 + 12345).fmod 2147483647 < 2147483647 := fmod_lt (by omega)
    refine ⟨(((m * 48271 + 12345).fmod 2147483647 * (m * 48271 + 12345).fmod 2147483647).fmod 2147483629 |>.fdiv 64).fmod many, st.set p (.lst [.int c, .int ((m * 48271 + 12345).fmod 2147483647)]), ?_, (fmod_lt h1).1, (fmod_lt h1).2, ⟨c, (m * 48271 + 12345).fmod 2147483647, by rw [List.getElem?_set_self hlt], hc, hq.1⟩, Fr.one _ _ _, by simp⟩
    have z : -(2 ^ 64) < (m * 48271 + 12345).fmod 2147483647 ∧ (m * 48271 + 12345).fmod 2147483647 < 2 ^ 64 := ⟨by omega, by omega⟩
    unfold runD
    rw [hb, hp, hN]
    have es : ∀ c, (st.set p c)[p]? = some c := fun c => List.getElem?_set_self hlt
    obtain ⟨q, hqq⟩ : ∃ q, q = (m * 48271 + 12345).fmod 2147483647 := ⟨_, rfl⟩
    rw [← hqq] at z ⊢
    have b1 : ∀ st : Sto, binW .Mult (.int m) (.int 48271) st = .ok (.int (m * 48271)) st := fun st => by rw [binW_mul, if_pos (.inr (by omega))]
    have b2 : ∀ (i : Int) (st : Sto), binW .Mod (.int i) (.int 2147483647) st = .ok (.int (i.fmod 2147483647)) st := fun i st => by rw [binW_mod, if_pos (by omega)]
    have b3 : ∀ st : Sto, binW .Mult (.int q) (.int q) st = .ok (.int (q * q)) st := fun st => by rw [binW_mul, if_pos (.inr z)]
    have b4 : ∀ (i : Int) (st : Sto), binW .Mod (.int i) (.int 2147483629) st = .ok (.int (i.fmod 2147483629)) st := fun i st => by rw [binW_mod, if_pos (by omega)]
    have b5 : ∀ (i : Int) (st : Sto), binW .FloorDiv (.int i) (.int 64) st = .ok (.int (i.fdiv 64)) st := fun i st => by rw [binW_div, if_pos ⟨by omega, by omega⟩]
    have b6 : ∀ (i : Int) (st : Sto), binW .Mod (.int i) (.int many) st = .ok (.int (i.fmod many)) st := fun i st => by rw [binW_mod, if_pos nz]
    simp -implicitDefEqProofs only [takeB, evSs, evS, evE, evEs, withT, bindT, boolS_bl, toS_ok, seq_nx, seq_ret, out_ret, Rgc_ok, R.bind_ok, List.getElem?_cons_zero, List.getElem?_cons_succ, cmpW_gt, ixW_ref, setW_ref, binW_add, b1, b2, b3, b4, b5, b6, e, es, a0, a1, i0, i1, ← hqq, List.length_cons, List.length_nil, Nat.zero_add, Nat.reduceAdd, if_true, Nat.reduceSub, List.replicate, List.map, List.cons_append, List.nil_append, hcz, decide_false, Bool.false_eq_true, if_false, List.set]
    refine gc_set ?_ ?_ <;> simp [W.und, Cell.und, W.unds]
theorem evSs_app : ∀ (a b : List S) (r : Sl) (st : Sto), evSs cl fu (a ++ b) r st = (evSs cl fu a r st).seq fun r st => evSs cl fu b r st
  | [], b, r, st => by simp only [List.nil_append, evSs, seq_nx]
  | x :: a, b, r, st => by
    simp -implicitDefEqProofs only [List.cons_append, evSs]
    cases evS cl fu x r st with
    | nx r st => simp only [seq_nx]; exact evSs_app a b r st
    | _ => rfl
theorem gc_fresh (l : List W) (h : W.unds st.length l = true) : gc st (st ++ [.lst l]) (.ref st.length) = .ok (.ref st.length) (st ++ [.lst l]) := by
  rcases gc_ref (okOld_fr _ (Fr.app nix st [.lst l])) (Nat.le_refl _) (app_get st _) with ⟨_, e⟩ | ⟨_, e⟩
  · rw [e, (Fr.app nix st _).take]
  · exact e
def poolE : List S := [
  .asg (.nm 3) (.bin .Mod (.bin .Mult (.bin .Add (.bin .Add (.bin .Add (.bin .Mod (.v 2) (.int 2147483629)) (.bin .Mult (.bin .Mult (.int 7919) (.v 1)) (.v 1))) (.bin .Mult (.int 31) (.v 1))) (.int 17)) (.int 48271)) (.int 2147483647)),
  .ret (.lst [(.bin .Mult (.v 2) (.bi .int [(.cmp .GtE (.v 2) (.bin .Pow (.int 10) (.int 18)))])), (.bin .Mod (.bin .Mult (.v 3) (.v 3)) (.int 2147483629))])]
theorem pool_end {ns : List Int} {k : Nat} (hk : k < 1000000) (cell : Int) (hc : 0 ≤ cell) : ∃ st', (evSs cl fu poolE [some (.scr ns), some (.int k), some (.int cell), none] st).out.gc st = .ok (.ref st.length) st' ∧ Pool st' st.length ∧ Fr nix st st' ∧ st'.length = st.length + 1 := by
  have k1 : -(2 ^ 64) < (7919 * (k : Int)) ∧ (7919 * (k : Int)) < 2 ^ 64 := by omega
  obtain ⟨mx, hmx⟩ : ∃ mx, mx = ((cell.fmod 2147483629 + 7919 * (k : Int) * k + 31 * k + 17) * 48271).fmod 2147483647 := ⟨_, rfl⟩
  have hq : 0 ≤ mx ∧ mx < 2147483647 := by rw [hmx]; exact fmod_lt (by omega)
  have z : -(2 ^ 64) < mx ∧ mx < 2 ^ 64 := ⟨by omega, by omega⟩
  have h31 : -(2 ^ 64) < (31 : Int) ∧ (31 : Int) < 2 ^ 64 := by omega
  have h7 : -(2 ^ 64) < (7919 : Int) ∧ (7919 : Int) < 2 ^ 64 := by omega
  have h4 : -(2 ^ 64) < (48271 : Int) ∧ (48271 : Int) < 2 ^ 64 := by omega
  obtain ⟨fl, hfl⟩ : ∃ fl : Int, fl = if (1000000000000000000 : Int) ≤ cell then 1 else 0 := ⟨_, rfl⟩
  have hf : 0 ≤ fl ∧ fl ≤ 1 := by rw [hfl]; split <;> omega
  have hf2 : -(2 ^ 64) < fl ∧ fl < 2 ^ 64 := ⟨by omega, by omega⟩
  have cz : 0 ≤ cell * fl := Int.mul_nonneg hc hf.1
  refine ⟨st ++ [.lst [.int (cell * fl), .int ((mx * mx).fmod 2147483629)]], ?_, ⟨cell * fl, (mx * mx).fmod 2147483629, app_get st _, cz, (fmod_lt (by omega)).1⟩, Fr.app nix st _, by simp⟩
  have sz : 2 ≤ sizeLine := by decide
  have b1 : ∀ (i : Int) (st : Sto), binW .Mult (.int 7919) (.int i) st = .ok (.int (7919 * i)) st := fun i st => by rw [binW_mul, if_pos (.inl h7)]
  have b2 : ∀ (i : Int) (st : Sto), binW .Mult (.int 31) (.int i) st = .ok (.int (31 * i)) st := fun i st => by rw [binW_mul, if_pos (.inl h31)]
  have b3 : ∀ (i : Int) (st : Sto), binW .Mult (.int i) (.int 48271) st = .ok (.int (i * 48271)) st := fun i st => by rw [binW_mul, if_pos (.inr h4)]
  have b4 : ∀ st : Sto, binW .Mult (.int (7919 * k)) (.int k) st = .ok (.int (7919 * k * k)) st := fun st => by rw [binW_mul, if_pos (.inl k1)]
  have b5 : ∀ st : Sto, binW .Mult (.int mx) (.int mx) st = .ok (.int (mx * mx)) st := fun st => by rw [binW_mul, if_pos (.inl z)]
  have b6 : ∀ st : Sto, binW .Mult (.int cell) (.int fl) st = .ok (.int (cell * fl)) st := fun st => by rw [binW_mul, if_pos (.inr hf2)]
  have b7 : ∀ st : Sto, binW .Pow (.int 10) (.int 18) st = .ok (.int 1000000000000000000) st := fun st => by rw [binW_pow, if_pos (by omega)]; simp
  have b8 : ∀ (i : Int) (st : Sto), binW .Mod (.int i) (.int 2147483629) st = .ok (.int (i.fmod 2147483629)) st := fun i st => by rw [binW_mod, if_pos (by omega)]
  have b9 : ∀ (i : Int) (st : Sto), binW .Mod (.int i) (.int 2147483647) st = .ok (.int (i.fmod 2147483647)) st := fun i st => by rw [binW_mod, if_pos (by omega)]
  have c1 : ∀ st : Sto, biW .int [.bl (decide ((1000000000000000000 : Int) ≤ cell))] st = .ok (.int fl) st := fun st => by
    rw [biW_intb, hfl]
    by_cases q : (1000000000000000000 : Int) ≤ cell
    · simp [q]
    · simp [q]
  simp -implicitDefEqProofs only [poolE, evSs, evS, evE, evEs, withT, bindT, toS_ok, seq_nx, seq_ret, out_ret, Rgc_ok, R.bind_ok, List.getElem?_cons_zero, List.getElem?_cons_succ, cmpW_ge, binW_add, b1, b2, b3, b4, b7, b8, b9, c1, ← hmx, List.set, b5, b6, List.length_cons, List.length_nil, Nat.zero_add, Nat.reduceAdd, sz, if_true]
  exact gc_fresh _ (by simp [W.unds, W.und])
theorem pool_run {ns : List Int} {k : Nat} (hb : d.body = poolB) (hp : d.ps.length = 2) (hN : d.N.length = 4) (hk : k < 1000000) : ∃ st', runD cl fu d [.scr ns, .int k] st = .ok (.ref st.length) st' ∧ Pool st' st.length ∧ Fr nix st st' ∧ st'.length = st.length + 1 := by
  have e0 : poolB = [.asg (.nm 2) (.int 0), .ite (.cmp .Lt (.v 1) (.bi .len [(.v 0)])) [.asg (.nm 2) (.bi .abs [(.ix (.v 0) (.v 1))])] []] ++ poolE := rfl
  unfold runD
  rw [hb, hp, hN, e0]
  rw [evSs_app]
  by_cases h : k < ns.length
  · have a0 : L2.atI ns (k : Int) = some ns[k] := by
      unfold L2.atI L2.ixN
      simp [h]
    have hd : decide ((k : Int) < (ns.length : Int)) = true := decide_eq_true (by omega)
    simp -implicitDefEqProofs only [evSs, evS, evE, evEs, withT, bindT, boolS_bl, toS_ok, seq_nx, R.bind_ok, List.getElem?_cons_zero, List.getElem?_cons_succ, List.length_cons, List.length_nil, Nat.zero_add, Nat.reduceAdd, if_true, Nat.reduceSub, List.replicate, List.map, List.cons_append, List.nil_append, List.set, biW_lenS, cmpW_lt, hd, ixW_scr, a0, Option.map_some, biW_abs]
    exact pool_end hk _ (by split <;> omega)
  · have hd : decide ((k : Int) < (ns.length : Int)) = false := decide_eq_false (by omega)
    simp -implicitDefEqProofs only [evSs, evS, evE, evEs, withT, bindT, boolS_bl, toS_ok, seq_nx, R.bind_ok, List.getElem?_cons_zero, List.getElem?_cons_succ, List.length_cons, List.length_nil, Nat.zero_add, Nat.reduceAdd, if_true, Nat.reduceSub, List.replicate, List.map, List.cons_append, List.nil_append, List.set, biW_lenS, cmpW_lt, hd, Bool.false_eq_true, if_false]
    exact pool_end hk _ (by omega)
end
end Mi

namespace Mi.K10
open PySem PySem.Spec PyProof.Rows L2
def top (i : Nat) : Stmt := PySem.Challenge.pw_fewturnsover_k10_turns_put_together.main.body.getD i (.Pass ⟨0, 0, 0, 0⟩)
def b_put_together_1 : List S := [
  .ite (.ands [(.gc (.cmp .NotEq (.v 1) (.lst []))), (.cmp .Eq (.ix (.ix (.v 1) (.neg (.int 1))) (.int 0)) (.v 2))]) [
    .setI (.v 1) (.neg (.int 1)) (.tup [(.v 2), (.bin .Add (.ix (.ix (.v 1) (.neg (.int 1))) (.int 1)) (.v 3))])] [
    .ex (.bm .append (.v 1) [(.tup [(.v 2), (.bi .list [(.v 3)])])])]]
def b_put_together : List S := [
  .asg (.nm 1) (.lst []),
  .fr (.tup [(.nm 2), (.nm 3)]) (.e (.v 0)) b_put_together_1,
  .ret (.v 1)]
def d_put_together : Def := ⟨"put_together", ["run"], ["run", "found", "hand", "choices"], b_put_together⟩
def h_put_together : He.DefD := ⟨("put_together", none), "put_together", "put_together", defArgs (top 1), defBody (top 1), defScope (top 1), [], []⟩
def b_law_pool : List S := [
  .asg (.nm 2) (.int 0),
  .ite (.cmp .Lt (.v 1) (.bi .len [(.v 0)])) [
    .asg (.nm 2) (.bi .abs [(.ix (.v 0) (.v 1))])] [],
  .asg (.nm 3) (.bin .Mod (.bin .Mult (.bin .Add (.bin .Add (.bin .Add (.bin .Mod (.v 2) (.int 2147483629)) (.bin .Mult (.bin .Mult (.int 7919) (.v 1)) (.v 1))) (.bin .Mult (.int 31) (.v 1))) (.int 17)) (.int 48271)) (.int 2147483647)),
  .ret (.lst [(.bin .Mult (.v 2) (.bi .int [(.cmp .GtE (.v 2) (.bin .Pow (.int 10) (.int 18)))])), (.bin .Mod (.bin .Mult (.v 3) (.v 3)) (.int 2147483629))])]
def d_law_pool : Def := ⟨"_law_pool", ["_law_script", "_law_k"], ["_law_script", "_law_k", "_law_cell", "_law_mixed"], b_law_pool⟩
def h_law_pool : He.DefD := ⟨("_law_pool", none), "_law_pool", "_law_pool", defArgs (top 3), defBody (top 3), defScope (top 3), [], []⟩
def b_law_take : List S := [
  .ite (.cmp .Gt (.ix (.v 0) (.int 0)) (.int 0)) [
    .asg (.nm 2) (.bin .Mod (.ix (.v 0) (.int 0)) (.v 1)),
    .setI (.v 0) (.int 0) (.bin .FloorDiv (.ix (.v 0) (.int 0)) (.v 1)),
    .ret (.v 2)] [],
  .setI (.v 0) (.int 1) (.bin .Mod (.bin .Add (.bin .Mult (.ix (.v 0) (.int 1)) (.int 48271)) (.int 12345)) (.int 2147483647)),
  .ret (.bin .Mod (.bin .FloorDiv (.bin .Mod (.bin .Mult (.ix (.v 0) (.int 1)) (.ix (.v 0) (.int 1))) (.int 2147483629)) (.int 64)) (.v 1))]
def d_law_take : Def := ⟨"_law_take", ["_law_pool_here", "_law_many"], ["_law_pool_here", "_law_many", "_law_found"], b_law_take⟩
def h_law_take : He.DefD := ⟨("_law_take", none), "_law_take", "_law_take", defArgs (top 4), defBody (top 4), defScope (top 4), [], []⟩
def b_law_due_1 : List S := [
  .ite (.ands [(.gc (.cmp .NotEq (.v 1) (.lst []))), (.cmp .Eq (.ix (.ix (.v 1) (.neg (.int 1))) (.int 0)) (.v 2))]) [
    .setI (.v 1) (.neg (.int 1)) (.tup [(.v 2), (.bin .Add (.ix (.ix (.v 1) (.neg (.int 1))) (.int 1)) (.v 3))])] [
    .ex (.bm .append (.v 1) [(.tup [(.v 2), (.bi .list [(.v 3)])])])]]
def b_law_due : List S := [
  .asg (.nm 1) (.lst []),
  .fr (.tup [(.nm 2), (.nm 3)]) (.e (.v 0)) b_law_due_1,
  .ret (.v 1)]
def d_law_due : Def := ⟨"_law_due", ["_law_race"], ["_law_race", "_law_found", "_law_who", "_law_picks"], b_law_due⟩
def h_law_due : He.DefD := ⟨("_law_due", none), "_law_due", "_law_due", defArgs (top 5), defBody (top 5), defScope (top 5), [], []⟩
def b_law_parted_1 : List S := [
  .asg (.nm 5) (.call 2 [(.v 0), (.bi .len [(.v 4)])]),
  .ite (.cmp .Gt (.v 5) (.int 0)) [
    .ex (.bm .append (.v 2) [(.tup [(.v 3), (.sl (.v 4) none (some (.v 5)))])])] [],
  .ex (.bm .append (.v 2) [(.tup [(.v 3), (.sl (.v 4) (some (.v 5)) none)])])]
def b_law_parted : List S := [
  .asg (.nm 2) (.lst []),
  .fr (.tup [(.nm 3), (.nm 4)]) (.e (.v 1)) b_law_parted_1,
  .ret (.v 2)]
def d_law_parted : Def := ⟨"_law_parted", ["_law_pool_here", "_law_race"], ["_law_pool_here", "_law_race", "_law_found", "_law_who", "_law_picks", "_law_at"], b_law_parted⟩
def h_law_parted : He.DefD := ⟨("_law_parted", none), "_law_parted", "_law_parted", defArgs (top 6), defBody (top 6), defScope (top 6), [], []⟩
def b_law_1 : List S := [
  .asgC 1 [10] (.ix (.lst [.non, (.int 0), (.int 1), (.int 2)]) (.call 2 [(.v 3), (.int 4)])) (.nm 10) (.rng1 (.bin .Add (.int 1) (.call 2 [(.v 3), (.int 3)]))) [] [],
  .ex (.bm .append (.v 4) [(.tup [(.call 2 [(.v 3), (.int 4)]), (.v 1)])])]
def b_law_2 : List S := [
  .ex (.bm .append (.v 1) [(.int 9)])]
def b_law_3 : List S := [
  .asg (.nm 9) (.call 0 [(.v 8)]),
  .ite (.ors [(.not (.isi .list (.v 9))), (.cmp .NotEq (.bi .repr [(.v 9)]) (.bi .repr [(.v 7)]))]) [
    .ret (.bl false)] [],
  .fr (.tup [(.nm 11), (.nm 1)]) (.e (.v 9)) b_law_2,
  .ex (.bm .append (.v 9) [.non])]
def b_law_4 : List S := [
  .fr (.nm 5) (.rng1 (.int 2)) b_law_3]
def b_law_5 : List S := [
  .asg (.nm 3) (.call 1 [(.v 0), (.v 2)]),
  .asg (.nm 4) (.lst []),
  .fr (.nm 5) (.rng1 (.call 2 [(.v 3), (.int 13)])) b_law_1,
  .asg (.nm 6) (.bi .repr [(.v 4)]),
  .asg (.nm 7) (.call 3 [(.v 4)]),
  .fr (.nm 8) (.e (.lst [(.v 4), (.call 4 [(.v 3), (.v 4)]), (.v 7)])) b_law_4,
  .ite (.ors [(.cmp .NotEq (.bi .repr [(.v 4)]) (.v 6)), (.cmp .NotEq (.bi .repr [(.v 7)]) (.bi .repr [(.call 3 [(.v 4)])]))]) [
    .ret (.bl false)] []]
def b_law : List S := [
  .ite (.ors [(.gc (.cmp .NotEq (.call 0 [(.lst [])]) (.lst []))), (.gc (.cmp .NotEq (.callK 0 [] [(.lst [(.tup [(.int 0), (.lst [.non])]), (.tup [(.int 0), (.lst [(.int 1)])])])] [.k 0]) (.lst [(.tup [(.int 0), (.lst [.non, (.int 1)])])])))]) [
    .ret (.bl false)] [],
  .asg (.nm 1) (.lst [(.int 1)]),
  .ite (.ors [(.gc (.cmp .NotEq (.call 0 [(.lst [(.tup [(.int 0), (.v 1)]), (.tup [(.int 0), (.v 1)]), (.tup [(.int 2), (.v 1)])])]) (.lst [(.tup [(.int 0), (.lst [(.int 1), (.int 1)])]), (.tup [(.int 2), (.lst [(.int 1)])])]))), (.gc (.cmp .NotEq (.v 1) (.lst [(.int 1)])))]) [
    .ret (.bl false)] [],
  .fr (.nm 2) (.rng1 (.bi .max2 [(.int 1), (.bi .min2 [(.bi .len [(.v 0)]), (.int 20)])])) b_law_5,
  .ret (.bl true)]
def d_law : Def := ⟨"law", ["_law_script"], ["_law_script", "_law_picks", "_law_k", "_law_pool_here", "_law_race", "_law_turn", "_law_kept", "_law_due_here", "_law_item", "_law_found", "_law_spot", "_law_who"], b_law⟩
def h_law : He.DefD := ⟨("law", none), "law", "law", defArgs (top 7), defBody (top 7), defScope (top 7), [], []⟩
def tab : Tab := [d_put_together, d_law_pool, d_law_take, d_law_due, d_law_parted, d_law]
def ds : List He.DefD := [h_put_together, h_law_pool, h_law_take, h_law_due, h_law_parted, h_law]
def sh0 : Sh := ⟨2, 2, [], [.p 0, .p 1]⟩
def sh1 : Sh := ⟨0, 1, [], [.p 0]⟩
def sh2 : Sh := ⟨0, 0, ["run"], [.k 0]⟩
def sh3 : Sh := ⟨1, 2, [], [.p 0, .p 1]⟩
def sh4 : Sh := ⟨3, 1, [], [.p 0]⟩
def sh5 : Sh := ⟨4, 2, [], [.p 0, .p 1]⟩
def shs : List Sh := [sh0, sh1, sh2, sh3, sh4, sh5]
theorem bn0 : BndAt tab ds sh0 := ⟨fun K f fd d dd e1 e2 F => by
  cases e1; cases e2
  exact bnd_all F rfl fun _ _ _ _ _ _ us zs h1 h2 => match us, zs, h1, h2 with
    | [_, _], [], _, _ => ⟨_, rfl, rfl⟩⟩
theorem bn1 : BndAt tab ds sh1 := ⟨fun K f fd d dd e1 e2 F => by
  cases e1; cases e2
  exact bnd_all F rfl fun _ _ _ _ _ _ us zs h1 h2 => match us, zs, h1, h2 with
    | [_], [], _, _ => ⟨_, rfl, rfl⟩⟩
theorem bn2 : BndAt tab ds sh2 := ⟨fun K f fd d dd e1 e2 F => by
  cases e1; cases e2
  exact bnd_all F rfl fun _ _ _ _ _ _ us zs h1 h2 => match us, zs, h1, h2 with
    | [], [_], _, _ => ⟨_, rfl, rfl⟩⟩
theorem bn3 : BndAt tab ds sh3 := ⟨fun K f fd d dd e1 e2 F => by
  cases e1; cases e2
  exact bnd_all F rfl fun _ _ _ _ _ _ us zs h1 h2 => match us, zs, h1, h2 with
    | [_, _], [], _, _ => ⟨_, rfl, rfl⟩⟩
theorem bn4 : BndAt tab ds sh4 := ⟨fun K f fd d dd e1 e2 F => by
  cases e1; cases e2
  exact bnd_all F rfl fun _ _ _ _ _ _ us zs h1 h2 => match us, zs, h1, h2 with
    | [_], [], _, _ => ⟨_, rfl, rfl⟩⟩
theorem bn5 : BndAt tab ds sh5 := ⟨fun K f fd d dd e1 e2 F => by
  cases e1; cases e2
  exact bnd_all F rfl fun _ _ _ _ _ _ us zs h1 h2 => match us, zs, h1, h2 with
    | [_, _], [], _, _ => ⟨_, rfl, rfl⟩⟩
theorem bns : ∀ sh ∈ shs, BndAt tab ds sh := by
  intro sh h
  unfold shs at h
  simp only [List.mem_cons, List.not_mem_nil, or_false] at h
  rcases h with rfl | rfl | rfl | rfl | rfl | rfl
  · exact bn0
  · exact bn1
  · exact bn2
  · exact bn3
  · exact bn4
  · exact bn5
theorem tabs_ok : okTops tab shs tab ds = true := by decide +kernel
abbrev rowW : PySem.W.OpenRow := PySem.W.OpenLaw.row PySem.Challenge.rw_fewturnsover_k10_turns_put_together
abbrev hk : PySem.W.Hook := He.hookD 4 (faOf tab) ds
def ob (s : PySem.W.SharedT) : He.AlD := He.obsDG 4 (faOf tab) ds (HandSHeadRun.getT s)
theorem ob_eq (s : PySem.W.SharedT) : ob s = hk.obs s.abs := He.obsDG_eq (HandSHeadRun.getT_eq s)
def loose : List Str := ["put_together", "_law_pool", "_law_take", "_law_due", "_law_parted"]
theorem run_top (w : World) : HandSHeadRun.RunEq rowW (PySem.W.view rowW.prog [7]) hk ob 4000 loose w := by
  intro os
  kernel_rfl
def runs : Prop := ∀ ns : List Int, ns.length ≤ 63 → ∃ st, callN tab 0 10 5 [.scr ns] [] = .ok (.bl true) st
open PySem.W PySem.Calls in
theorem holds_of (h : runs) : PySem.Challenge.rw_fewturnsover_k10_turns_put_together.Holds := by
  w_on; o_law
  refine HandSHeadRun.head_any (r := rowW) (q := view rowW.prog [7]) (H := hk) (ob := ob) (M := 4000) (loose := loose) (d := HandSHeadRun.topDef rowW.prog 7) (kwd := []) ob_eq
    (by kernel_rfl) (fun s => by kernel_rfl) run_top (by kernel_rfl) (by kernel_rfl) (by kernel_rfl) (by rfl) (by first | assumption | decide +kernel) (by decide +kernel) ⟨rfl, rfl, rfl, rfl, rfl, by decide +kernel⟩ ?hw ?hc
  case hw => w_witness2
  case hc => exact walk_row (l := PySem.Challenge.rw_fewturnsover_k10_turns_put_together) (n := 63) (T := tab) (shs := shs) (ds := ds) (x := "_law_script") (law := "law") (ix := 5) rfl (by decide) (by kernel_rfl) ⟨rfl, by decide, by decide⟩ (fun w h Y => Y) tabs_ok bns (by kernel_rfl) rfl rfl rfl rfl rfl (fun _ _ _ _ _ _ _ => rfl) h
end Mi.K10

namespace Mi.K10
open PySem
abbrev TV := Int × List W
abbrev Turn := Nat × TV
def itemOf (x : Turn) : W := .tup [.int x.2.1, .ref x.1]
structure Race (st : Sto) (q : Nat) (rs : List Turn) : Prop where
  lst : st[q]? = some (.lst (rs.map itemOf))
  cel : ∀ x ∈ rs, st[x.1]? = some (.lst x.2.2)
theorem Race.fr {st st' : Sto} {q : Nat} {rs : List Turn} (h : Race st q rs) (f : Fr nix st st') : Race st' q rs := ⟨f.get h.lst fun x => x, fun x hx => f.get (h.cel x hx) fun x => x⟩
def pd (w : W) : PyData := (W.flat w).getD .none
def tD (t : TV) : PyData := .tuple [.int t.1, .list (t.2.map pd)]
def tot : List TV → Nat
  | [] => 0
  | t :: r => t.2.length + 1 + tot r
def Pick (w : W) : Prop := w = .non ∨ ∃ i : Int, w = .int i ∧ 0 ≤ i ∧ i < 1000
structure Okr (v : List TV) : Prop where
  all : ∀ t ∈ v, 0 ≤ t.1 ∧ t.1 < 1000 ∧ ∀ w ∈ t.2, Pick w
  sz : tot v ≤ 200
theorem tot_app (a b : List TV) : tot (a ++ b) = tot a + tot b := by
  induction a with
  | nil => simp [tot]
  | cons x a ih => simp only [List.cons_append, tot, ih]; omega
theorem tot_len (v : List TV) : v.length ≤ tot v := by
  induction v with
  | nil => simp [tot]
  | cons x a ih => simp only [List.length_cons, tot]; omega
theorem tot_mem {v : List TV} {t : TV} (h : t ∈ v) : t.2.length + 1 ≤ tot v := by
  induction v with
  | nil => simp at h
  | cons x a ih =>
    simp only [tot]
    rcases List.mem_cons.mp h with rfl | h
    · omega
    · have := ih h; omega
theorem Okr.left {a b : List TV} (h : Okr (a ++ b)) : Okr a := ⟨fun t ht => h.all t (by simp [ht]), by have := h.sz; rw [tot_app] at this; omega⟩
theorem Pick.flat {w : W} (h : Pick w) : W.flat w = some (pd w) := by
  rcases h with rfl | ⟨i, rfl, _, _⟩ <;> rfl
theorem Pick.fine {w : W} (h : Pick w) : tiny (pd w) = true ∧ (pd w).depth ≤ 0 ∧ (pd w).weight ≤ 10 := by
  rcases h with rfl | ⟨i, rfl, h1, h2⟩
  · exact ⟨rfl, by decide, by decide⟩
  · refine ⟨by simp only [pd, W.flat, Option.getD_some, tiny, decide_eq_true_eq]; omega, by simp [pd, W.flat, PyData.depth], ?_⟩
    simp only [pd, W.flat, Option.getD_some, PyData.weight]
    split
    · omega
    · rename_i z
      have z' : i.natAbs ≠ 0 := by
        intro q
        apply z
        simp only [beq_iff_eq]
        omega
      have := (Nat.log2_lt z').mpr (show i.natAbs < 2 ^ 10 by omega)
      omega
theorem tD_fine {t : TV} (h : 0 ≤ t.1 ∧ t.1 < 1000 ∧ ∀ w ∈ t.2, Pick w) : tiny (tD t) = true ∧ (tD t).depth ≤ 2 ∧ (tD t).weight ≤ 12 + 11 * t.2.length := by
  obtain ⟨h1, h2, h3⟩ := h
  have i1 : Pick (.int t.1) := .inr ⟨_, rfl, h1, h2⟩
  obtain ⟨a1, a2, a3⟩ := i1.fine
  have a1 : tiny (.int t.1) = true := a1
  have a2 : (PyData.int t.1).depth ≤ 0 := a2
  have a3 : (PyData.int t.1).weight ≤ 10 := a3
  have b1 : tinys (t.2.map pd) = true := tinys_of fun x hx => by
    obtain ⟨w, hw, rfl⟩ := List.mem_map.mp hx
    exact (h3 w hw).fine.1
  have b2 : PyData.depthAll (t.2.map pd) ≤ 0 := depths_le fun x hx => by
    obtain ⟨w, hw, rfl⟩ := List.mem_map.mp hx
    exact (h3 w hw).fine.2.1
  have b3 : PyData.weightAll (t.2.map pd) ≤ (10 + 1) * (t.2.map pd).length := weights_le fun x hx => by
    obtain ⟨w, hw, rfl⟩ := List.mem_map.mp hx
    exact (h3 w hw).fine.2.2
  rw [List.length_map] at b3
  refine ⟨?_, ?_, ?_⟩
  · simp only [tD, tiny, tinys, b1, Bool.and_eq_true, Bool.and_true]
    simpa [tiny] using a1
  · simp only [tD, PyData.depth, PyData.depthAll]
    simp only [PyData.depth] at a2
    omega
  · simp only [tD, PyData.weight, PyData.weightAll]
    simp only [PyData.weight] at a3
    omega
theorem Okr.fine {v : List TV} (h : Okr v) : Fine (.list (v.map tD)) := by
  refine ⟨?_, ?_, ?_⟩
  · rw [tiny]
    exact tinys_of fun x hx => by
      obtain ⟨t, ht, rfl⟩ := List.mem_map.mp hx
      exact (tD_fine (h.all t ht)).1
  · have : PyData.depthAll (v.map tD) ≤ 2 := depths_le fun x hx => by
      obtain ⟨t, ht, rfl⟩ := List.mem_map.mp hx
      exact (tD_fine (h.all t ht)).2.1
    simp only [PyData.depth]
    omega
  · have h1 : PyData.weightAll (v.map tD) ≤ (3000 + 1) * (v.map tD).length := weights_le fun x hx => by
      obtain ⟨t, ht, rfl⟩ := List.mem_map.mp hx
      have h2 := (tD_fine (h.all t ht)).2.2
      have h3 := tot_mem ht
      have h4 := h.sz
      omega
    have h2 := tot_len v
    have h3 := h.sz
    rw [List.length_map] at h1
    have h4 : (3000 + 1) * v.length ≤ (3000 + 1) * 200 := Nat.mul_le_mul_left _ (by omega)
    simp only [PyData.weight]
    omega
theorem Race.dat {st : Sto} {q : Nat} {rs : List Turn} (h : Race st q rs) (k : Okr (rs.map (·.2))) : dat st (.ref q) = some (.list ((rs.map (·.2)).map tD)) := by
  unfold Mi.dat
  rw [W.dat]
  refine look_lst h.lst ?_
  rw [List.map_map]
  refine dats_map fun x hx => ?_
  unfold itemOf
  rw [W.dat]
  have hp : ∀ w ∈ x.2.2, Pick w := (k.all x.2 (List.mem_map.mpr ⟨x, hx, rfl⟩)).2.2
  have e1 : W.dats (look st 6) x.2.2 = some (x.2.2.map pd) := by
    have := dats_map (h := look st 6) (f := fun w : W => w) (g := pd) (xs := x.2.2) fun w hw => flat_dat (hp w hw).flat
    simpa using this
  have e2 : W.dat (look st 7) (.ref x.1) = some (.list (x.2.2.map pd)) := by
    rw [W.dat]
    exact look_lst (h.cel x hx) e1
  rw [dats_cons (d := .int x.2.1) (by rw [W.dat]) (dats_cons e2 (dats_nil _))]
  rfl
def mg : List TV → TV → List TV
  | [], t => [t]
  | [l], t => if l.1 = t.1 then [(t.1, l.2 ++ t.2)] else [l, t]
  | a :: b :: r, t => a :: mg (b :: r) t
theorem mg_end (as : List TV) (l t : TV) : mg (as ++ [l]) t = if l.1 = t.1 then as ++ [(t.1, l.2 ++ t.2)] else as ++ [l, t] := by
  induction as with
  | nil => rfl
  | cons a as ih =>
    cases as with
    | nil =>
      simp only [List.cons_append, List.nil_append, mg]
      split <;> rfl
    | cons b bs =>
      simp only [List.cons_append, mg] at ih ⊢
      rw [ih]
      split <;> rfl
def merge (v : List TV) : List TV := v.foldl mg []
theorem merge_app (a : List TV) (t : TV) : merge (a ++ [t]) = mg (merge a) t := by simp [merge]
theorem mg_ok {a : List TV} {t : TV} (h : Okr (a ++ [t])) : Okr (mg a t) ∧ tot (mg a t) ≤ tot (a ++ [t]) := by
  rcases List.eq_nil_or_concat a with rfl | ⟨as, l, rfl⟩
  · exact ⟨h, Nat.le_refl _⟩
  · simp only [List.concat_eq_append] at h ⊢
    rw [mg_end]
    split
    · rename_i e
      have le : tot (as ++ [(t.1, l.2 ++ t.2)]) ≤ tot (as ++ [l] ++ [t]) := by
        simp only [tot_app, tot, List.length_append]
        omega
      refine ⟨⟨fun x hx => ?_, Nat.le_trans le h.sz⟩, le⟩
      rcases List.mem_append.mp hx with hx | hx
      · exact h.all x (by simp [hx])
      · obtain rfl := List.mem_singleton.mp hx
        have h1 := h.all t (by simp)
        have h2 := h.all l (by simp)
        refine ⟨h1.1, h1.2.1, fun w hw => ?_⟩
        rcases List.mem_append.mp hw with hw | hw
        · exact h2.2.2 w hw
        · exact h1.2.2 w hw
    · have e : as ++ [l, t] = as ++ [l] ++ [t] := by simp
      rw [e]
      exact ⟨h, Nat.le_refl _⟩
theorem merge_ok : ∀ (v : List TV) (acc : List TV), Okr (acc ++ v) → Okr (v.foldl mg acc)
  | [], acc, h => by simpa using h
  | t :: v, acc, h => by
    rw [List.foldl_cons]
    refine merge_ok v _ ?_
    have h1 : Okr (acc ++ [t]) := by
      have : acc ++ t :: v = (acc ++ [t]) ++ v := by simp
      rw [this] at h
      exact h.left
    obtain ⟨h2, h3⟩ := mg_ok h1
    refine ⟨fun x hx => ?_, ?_⟩
    · rcases List.mem_append.mp hx with hx | hx
      · exact h2.all x hx
      · exact h.all x (by simp [hx])
    · have := h.sz
      simp only [tot_app, tot] at this h3 ⊢
      omega
theorem merge_le : ∀ (v : List TV) (acc : List TV), Okr (acc ++ v) → tot (v.foldl mg acc) ≤ tot (acc ++ v)
  | [], acc, h => by simp
  | t :: v, acc, h => by
    rw [List.foldl_cons]
    have h1 : Okr (acc ++ [t]) := by
      have : acc ++ t :: v = (acc ++ [t]) ++ v := by simp
      rw [this] at h
      exact h.left
    obtain ⟨h2, h3⟩ := mg_ok h1
    have h4 : Okr (mg acc t ++ v) := by
      refine ⟨fun x hx => ?_, ?_⟩
      · rcases List.mem_append.mp hx with hx | hx
        · exact h2.all x hx
        · exact h.all x (by simp [hx])
      · have := h.sz
        simp only [tot_app, tot] at this h3 ⊢
        omega
    have h5 := merge_le v _ h4
    simp only [tot_app, tot] at h3 h5 ⊢
    omega
theorem Okr.merge {v : List TV} (h : Okr v) : Okr (merge v) := merge_ok v [] (by simpa using h)
/-- no two beside one another are of one hand -/
def apart : List TV → Prop
  | [] => True
  | [_] => True
  | a :: b :: r => a.1 ≠ b.1 ∧ apart (b :: r)
theorem apart_end : ∀ (as : List TV) (l t : TV), apart (as ++ [l]) → l.1 ≠ t.1 → apart (as ++ [l, t])
  | [], l, t, _, n => ⟨n, trivial⟩
  | [a], l, t, h, n => ⟨h.1, n, trivial⟩
  | a :: b :: as, l, t, h, n => ⟨h.1, apart_end (b :: as) l t h.2 n⟩
theorem apart_last : ∀ (as : List TV) (l t : TV), apart (as ++ [l]) → l.1 = t.1 → apart (as ++ [t])
  | [], l, t, _, n => trivial
  | [a], l, t, h, n => ⟨by rw [← n]; exact h.1, trivial⟩
  | a :: b :: as, l, t, h, n => ⟨h.1, apart_last (b :: as) l t h.2 n⟩
theorem mg_apart {a : List TV} {t : TV} (h : apart a) : apart (mg a t) := by
  rcases List.eq_nil_or_concat a with rfl | ⟨as, l, rfl⟩
  · exact trivial
  · simp only [List.concat_eq_append] at h ⊢
    rw [mg_end]
    split
    · rename_i e
      exact apart_last as l _ h e
    · rename_i e
      exact apart_end as l t h e
theorem merge_apart : ∀ (v acc : List TV), apart acc → apart (v.foldl mg acc)
  | [], acc, h => h
  | t :: v, acc, h => by
    rw [List.foldl_cons]
    exact merge_apart v _ (mg_apart h)
theorem apart_keep : ∀ (v acc : List TV), apart (acc ++ v) → v.foldl mg acc = acc ++ v
  | [], acc, _ => by simp
  | t :: v, acc, h => by
    have e : mg acc t = acc ++ [t] := by
      rcases List.eq_nil_or_concat acc with rfl | ⟨as, l, rfl⟩
      · rfl
      · simp only [List.concat_eq_append] at h ⊢
        rw [mg_end, if_neg]
        · simp
        · have : ∀ (as : List TV), apart (as ++ [l] ++ t :: v) → l.1 ≠ t.1 := by
            intro as
            induction as with
            | nil => exact fun h => h.1
            | cons a as ih =>
              intro h
              cases as with
              | nil => exact h.2.1
              | cons b bs => exact ih h.2
          exact this as h
    rw [List.foldl_cons, e]
    have := apart_keep v (acc ++ [t]) (by simpa using h)
    rw [this]
    simp
theorem merge_merge (v : List TV) : merge (merge v) = merge v := by
  have := apart_keep (merge v) [] (show apart ([] ++ merge v) from merge_apart v [] trivial)
  simpa [merge] using this
theorem mg_split (acc : List TV) (h : Int) (a b : List W) : mg (mg acc (h, a)) (h, b) = mg acc (h, a ++ b) := by
  rcases List.eq_nil_or_concat acc with rfl | ⟨as, l, rfl⟩
  · show mg [(h, a)] (h, b) = _
    simp [mg]
  · simp only [List.concat_eq_append]
    rw [mg_end, mg_end]
    split
    · rw [mg_end, if_pos rfl, List.append_assoc]
    · have : as ++ [l, (h, a)] = (as ++ [l]) ++ [(h, a)] := by simp
      rw [this, mg_end, if_pos rfl]
      simp
section
variable {cl : Nat → List W → Sto → R W} {fu : Nat} {d : Def} {st : Sto}
/-- found != [] -/
theorem nonempty {r : Sl} {i f : Nat} {ds : List PyData} (hr : r[i]? = some (some (.ref f))) (e : Mi.dat st (.ref f) = some (.list ds)) (hf : Fine (.list ds)) : evE cl (.gc (.cmp .NotEq (.v i) (.lst []))) r st = .ok (.bl (!ds.isEmpty)) st := by
  have e1 : Mi.dat (st ++ [.lst []]) (.ref f) = some (.list ds) := dat_fr (Fr.app nix st _) e
  have e2 : Mi.dat (st ++ [.lst []]) (.ref st.length) = some (.list []) := by
    unfold Mi.dat
    rw [W.dat]
    exact look_lst (app_get st _) (dats_nil _)
  have e3 := eqW_dat e1 e2 hf.shaped rfl
  rw [PyData.eqv, eqvs_nil] at e3
  simp -implicitDefEqProofs only [withT_nm, evSs, evS, evE, evEs, evO, evAnds, evOrs, evSr, evIfs, evGs, boolR_bl, boolS_bl, toS_ok, seq_nx, seq_ret, out_ret, out_nx, Rgc_ok, R.bind_ok, List.getElem?_cons_zero, List.getElem?_cons_succ, List.set, if_true, if_false, Bool.false_eq_true, ixW_tup, ixW_ref, setW_ref, binW_add, binW_addL, cmpW_eq, cmpW_ne, eqW_int, bmW_app, biW_listL, srcW_ref, srcW_tup, unset, List.length_cons, List.length_nil, Nat.zero_add, Nat.reduceAdd, hr, e3, Nat.zero_le]
  exact gc_flat (Fr.app nix st _) (by simp [W.und])
theorem last_ix {n : Nat} : L2.ixN (n + 1) (-1) = some n := by
  have e1 : (0 : Int) ≤ -1 + ((n + 1 : Nat) : Int) ∧ (-1 + ((n + 1 : Nat) : Int)).toNat = n := by omega
  unfold L2.ixN
  simp
  omega
theorem last_at {as : List W} {w : W} : L2.atI (as ++ [w]) (-1) = some w := by
  unfold L2.atI
  have e : (as ++ [w]).length = as.length + 1 := by simp
  rw [e, last_ix]
  simp
theorem at0 {a b : W} : L2.atI [a, b] 0 = some a := rfl
theorem at1 {a b : W} : L2.atI [a, b] 1 = some b := rfl
/-- what one turn does -/
theorem pt_step {q f : Nat} {acc : List Turn} {x : Turn} {a2 a3 : Option W} (hf : Race st f acc) (hx : st[x.1]? = some (.lst x.2.2)) (hn : ∀ y ∈ acc, f < y.1) (ok : Okr (acc.map (·.2) ++ [x.2])) : ∃ st' acc',
    evSs cl fu b_put_together_1 [some (.ref q), some (.ref f), some (.int x.2.1), some (.ref x.1)] st = .nx [some (.ref q), some (.ref f), some (.int x.2.1), some (.ref x.1)] st' ∧
    Fr (one f) st st' ∧ Race st' f acc' ∧ (∀ y ∈ acc', f < y.1) ∧ acc'.map (·.2) = mg (acc.map (·.2)) x.2 := by
  have hfl := (List.getElem?_eq_some_iff.mp hf.lst).1
  have fin := ok.left.fine
  have ne := nonempty (cl := cl) (r := [some (.ref q), some (.ref f), some (.int x.2.1), some (.ref x.1)]) (i := 1) rfl (hf.dat ok.left) fin
  have sz : ∀ n, n ≤ 1000 → n ≤ sizeLine := fun n h => Nat.le_trans h (by decide)
  have len : acc.length + 1 ≤ 200 := by
    have h1 := tot_len (acc.map (·.2) ++ [x.2])
    have h2 := ok.sz
    simp at h1
    omega
  -- a new turn is put behind
  have put : ∀ ws : List W, ∀ st1 : Sto, st1 = st → ws = x.2.2 → ∃ st' acc', (evSs cl fu [.ex (.bm .append (.v 1) [(.tup [(.v 2), (.bi .list [(.v 3)])])])] [some (.ref q), some (.ref f), some (.int x.2.1), some (.ref x.1)] st).seq (fun r st => .nx r st) = .nx [some (.ref q), some (.ref f), some (.int x.2.1), some (.ref x.1)] st' ∧
      Fr (one f) st st' ∧ Race st' f acc' ∧ (∀ y ∈ acc', f < y.1) ∧ acc' = acc ++ [(st.length, x.2)] := by
    intro ws st1 _ _
    have g1 : (st ++ [Cell.lst x.2.2])[f]? = some (.lst (acc.map itemOf)) := (Fr.app nix st _).get hf.lst fun z => z
    have l1 : (acc.map itemOf).length < sizeLine := by
      rw [List.length_map]
      exact Nat.lt_of_lt_of_le (by omega) (sz 1000 (Nat.le_refl _))
    refine ⟨(st ++ [Cell.lst x.2.2]).set f (Cell.lst (acc.map itemOf ++ [W.tup [W.int x.2.1, W.ref st.length]])), acc ++ [(st.length, x.2)], ?_, (Fr.app _ st _).trans (Fr.one _ _ _), ⟨?_, ?_⟩, ?_, rfl⟩
    · simp -implicitDefEqProofs only [withT_nm, evSs, evS, evE, evEs, evO, evAnds, evOrs, evSr, evIfs, evGs, boolR_bl, boolS_bl, toS_ok, seq_nx, seq_ret, out_ret, out_nx, Rgc_ok, R.bind_ok, List.getElem?_cons_zero, List.getElem?_cons_succ, List.set, if_true, if_false, Bool.false_eq_true, ixW_tup, ixW_ref, setW_ref, binW_add, binW_addL, cmpW_eq, cmpW_ne, eqW_int, bmW_app, biW_listL, srcW_ref, srcW_tup, unset, List.length_cons, List.length_nil, Nat.zero_add, Nat.reduceAdd, hx, g1, l1, sz 2 (by decide)]
    · rw [List.getElem?_set_self (by simp; omega)]
      simp [itemOf]
    · intro y hy
      have hy' : f < y.1 := by
        rcases List.mem_append.mp hy with h | h
        · exact hn y h
        · obtain rfl := List.mem_singleton.mp h
          exact hfl
      rw [List.getElem?_set_ne (by omega)]
      rcases List.mem_append.mp hy with h | h
      · exact (Fr.app nix st _).get (hf.cel y h) fun z => z
      · obtain rfl := List.mem_singleton.mp h
        exact app_get st _
    · intro y hy
      rcases List.mem_append.mp hy with h | h
      · exact hn y h
      · obtain rfl := List.mem_singleton.mp h
        exact hfl
  rcases List.eq_nil_or_concat acc with rfl | ⟨as, l, rfl⟩
  · obtain ⟨st', acc', e, h1, h2, h3, rfl⟩ := put _ _ rfl rfl
    refine ⟨st', _, ?_, h1, h2, h3, by simp [mg]⟩
    rw [b_put_together_1, evSs, evS, evE, evAnds, ne]
    simp -implicitDefEqProofs only [boolR_bl, boolS_bl, List.map_nil, List.isEmpty_nil, Bool.not_true, Bool.false_eq_true, if_false]
    simpa only [evSs] using e
  · simp only [List.concat_eq_append] at hf hn ok ne put fin len ⊢
    have hl : l ∈ as ++ [l] := by simp
    have m1 : (as ++ [l]).map itemOf = as.map itemOf ++ [itemOf l] := by simp
    have lst := hf.lst
    rw [m1] at lst
    by_cases hh : l.2.1 = x.2.1
    · have g0 : st[l.1]? = some (.lst l.2.2) := hf.cel l hl
      have s2 : l.2.2.length + x.2.2.length ≤ sizeLine := by
        have h1 := tot_mem (v := (as ++ [l]).map (·.2) ++ [x.2]) (t := l.2) (by simp)
        have h2 := tot_mem (v := (as ++ [l]).map (·.2) ++ [x.2]) (t := x.2) (by simp)
        have h3 := ok.sz
        exact sz _ (by omega)
      have g1 : (st ++ [Cell.lst (l.2.2 ++ x.2.2)])[f]? = some (.lst (as.map itemOf ++ [itemOf l])) := (Fr.app nix st _).get lst fun z => z
      have n1 : (as.map itemOf ++ [itemOf l]).length = as.length + 1 := by simp
      have ns : (as.map itemOf ++ [itemOf l]).set as.length (W.tup [W.int x.2.1, W.ref st.length]) = (as ++ [(st.length, (x.2.1, l.2.2 ++ x.2.2))]).map itemOf := by
        rw [List.set_append_right _ _ (by simp)]
        simp [itemOf]
      refine ⟨(st ++ [Cell.lst (l.2.2 ++ x.2.2)]).set f (Cell.lst ((as ++ [(st.length, (x.2.1, l.2.2 ++ x.2.2))]).map itemOf)), as ++ [(st.length, (x.2.1, l.2.2 ++ x.2.2))], ?_, (Fr.app _ st _).trans (Fr.one _ _ _), ⟨?_, ?_⟩, ?_, ?_⟩
      · rw [b_put_together_1, evSs, evS, evE, evAnds, ne]
        have il : itemOf l = .tup [.int l.2.1, .ref l.1] := rfl
        have io : ∀ w : W, L2.atI (as.map itemOf ++ [.tup [.int l.2.1, .ref l.1]]) (-1) = some (.tup [.int l.2.1, .ref l.1]) := fun _ => last_at
        have emp : (List.map tD (List.map (·.2) (as ++ [l]))).isEmpty = false := by simp
        rw [il, hh] at lst g1 ns n1
        simp -implicitDefEqProofs only [withT_nm, evSs, evS, evE, evEs, evO, evAnds, evOrs, evSr, evIfs, evGs, boolR_bl, boolS_bl, toS_ok, seq_nx, seq_ret, out_ret, out_nx, Rgc_ok, R.bind_ok, List.getElem?_cons_zero, List.getElem?_cons_succ, List.set, if_true, if_false, Bool.false_eq_true, ixW_tup, ixW_ref, setW_ref, binW_add, binW_addL, cmpW_eq, cmpW_ne, eqW_int, bmW_app, biW_listL, srcW_ref, srcW_tup, unset, List.length_cons, List.length_nil, Nat.zero_add, Nat.reduceAdd, emp, Bool.not_false, lst, g1, last_at, at0, at1, eq_self, decide_true, g0, hx, s2, sz 2 (by decide), n1, last_ix, ns]
      · rw [List.getElem?_set_self (by simp; omega)]
      · intro y hy
        have hy' : f < y.1 := by
          rcases List.mem_append.mp hy with h | h
          · exact hn y (by simp [h])
          · obtain rfl := List.mem_singleton.mp h
            exact hfl
        rw [List.getElem?_set_ne (by omega)]
        rcases List.mem_append.mp hy with h | h
        · exact (Fr.app nix st _).get (hf.cel y (by simp [h])) fun z => z
        · obtain rfl := List.mem_singleton.mp h
          exact app_get st _
      · intro y hy
        rcases List.mem_append.mp hy with h | h
        · exact hn y (by simp [h])
        · obtain rfl := List.mem_singleton.mp h
          exact hfl
      · simp only [List.map_append, List.map_cons, List.map_nil]
        rw [mg_end, if_pos hh]
    · obtain ⟨st', acc', e, h1, h2, h3, rfl⟩ := put _ _ rfl rfl
      refine ⟨st', _, ?_, h1, h2, h3, ?_⟩
      · rw [b_put_together_1, evSs, evS, evE, evAnds, ne]
        have il : itemOf l = .tup [.int l.2.1, .ref l.1] := rfl
        have emp : (List.map tD (List.map (·.2) (as ++ [l]))).isEmpty = false := by simp
        rw [il] at lst
        have hd : decide (l.2.1 = x.2.1) = false := decide_eq_false hh
        have e' := e
        simp only [evSs] at e'
        simp -implicitDefEqProofs only [boolR_bl, boolS_bl, emp, Bool.not_false, if_true, evAnds]
        simp -implicitDefEqProofs only [evE, ixW_tup, ixW_ref, cmpW_eq, eqW_int, R.bind_ok, List.getElem?_cons_zero, List.getElem?_cons_succ, lst, last_at, at0, hd, boolS_bl, Bool.false_eq_true, if_false]
        simpa only [evSs] using e'
      · simp only [List.map_append, List.map_cons, List.map_nil]
        rw [mg_end, if_neg hh]
        simp

theorem unds_race {n : Nat} : ∀ {acc : List Turn}, (∀ y ∈ acc, n ≤ y.1) → W.unds n (acc.map itemOf) = true → acc = []
  | [], _, _ => rfl
  | y :: r, h, e => by
    have := h y (by simp)
    simp [W.unds, itemOf, W.und] at e
    omega
theorem gc_race {X : Nat → Prop} {a b : Sto} {acc : List Turn} (o : okOld a.length a b = true) (f : Fr X a b) (h : Race b a.length acc) (hn : ∀ y ∈ acc, a.length < y.1) : ∃ b', gc a b (.ref a.length) = .ok (.ref a.length) b' ∧ Race b' a.length acc ∧ a.length ≤ b'.length ∧ ∀ i, i < a.length → b'[i]? = b[i]? := by
  rcases gc_ref o (Nat.le_refl _) h.lst with ⟨u, e⟩ | ⟨_, e⟩
  · have z := unds_race (fun y hy => Nat.le_of_lt (hn y hy)) (show W.unds a.length (acc.map itemOf) = true from u)
    subst z
    have hl : (b.take a.length).length = a.length := by
      rw [List.length_take]
      have := f.1
      omega
    refine ⟨_, e, ⟨?_, fun x hx => by simp at hx⟩, by simp [hl], fun i hi => ?_⟩
    · have := app_get (b.take a.length) (.lst (List.map itemOf []))
      rw [hl] at this
      exact this
    · rw [List.getElem?_append_left (by omega), List.getElem?_take_of_lt hi]
  · exact ⟨b, e, h, f.1, fun _ _ => rfl⟩
theorem okr_step {done : List TV} {x : TV} {rest : List TV} (h : Okr (done ++ x :: rest)) : Okr (merge done ++ [x]) := by
  have h1 : Okr done := h.left
  refine ⟨fun t ht => ?_, ?_⟩
  · rcases List.mem_append.mp ht with ht | ht
    · exact h1.merge.all t ht
    · exact h.all t (by simp [List.mem_singleton.mp ht])
  · have h2 := merge_le done [] (by simpa using h1)
    have h3 := h.sz
    simp only [tot_app, tot, List.nil_append] at h2 h3 ⊢
    show tot (merge done) + _ ≤ _
    unfold merge
    omega
theorem pt_run (hb : d.body = b_put_together) (hp : d.ps.length = 1) (hN : d.N.length = 4) {q : Nat} {rs : List Turn} (h : Race st q rs) (ok : Okr (rs.map (·.2))) : ∃ st' acc, runD cl fu d [.ref q] st = .ok (.ref st.length) st' ∧ Fr nix st st' ∧ Race st' st.length acc ∧ (∀ y ∈ acc, st.length < y.1) ∧ acc.map (·.2) = merge (rs.map (·.2)) := by
  have h0 : Race (st ++ [.lst []]) q rs := h.fr (Fr.app nix st _)
  have hq := (List.getElem?_eq_some_iff.mp h.lst).1
  obtain ⟨r', st', e, us, a2, a3, done, rest, acc, k1, k2, k3, k4, k5, k6, k7⟩ := loopF_to (f := fun w r st => withT (.tup [(.nm 2), (.nm 3)]) w r (fun r' => evSs cl fu b_put_together_1 r' st) .stk)
    (P := fun us r s => ∃ (_ : Unit) (a2 a3 : Option W) (done rest acc : List Turn), rs = done ++ rest ∧ us = rest.map itemOf ∧ r = [some (.ref q), some (.ref st.length), a2, a3] ∧ Fr nix st s ∧ Race s st.length acc ∧ (∀ y ∈ acc, st.length < y.1) ∧ acc.map (·.2) = merge (done.map (·.2)))
    (.cell q (.lst (rs.map itemOf))) (rs.map itemOf) [some (.ref q), some (.ref st.length), none, none] (st ++ [.lst []])
    ⟨(), none, none, [], rs, [], rfl, rfl, rfl, Fr.app nix st _, ⟨app_get st _, fun x hx => by simp at hx⟩, fun y hy => by simp at hy, rfl⟩
    (fun us r s hP => by
      obtain ⟨_, a2, a3, done, rest, acc, k1, k2, k3, k4, k5, k6, k7⟩ := hP
      show (match s[q]? with
        | some c' => c'.beq (.lst (rs.map itemOf))
        | none => false) = true
      rw [k4.get h.lst fun z => z]
      exact Cell.beq_refl _)
    (fun w us r s hP => by
      obtain ⟨_, a2, a3, done, rest, acc, k1, k2, k3, k4, k5, k6, k7⟩ := hP
      cases rest with
      | nil => simp at k2
      | cons x rest =>
        simp only [List.map_cons, List.cons.injEq] at k2
        obtain ⟨rfl, rfl⟩ := k2
        subst k3
        have hx : x ∈ rs := by rw [k1]; simp
        have okx : Okr (acc.map (·.2) ++ [x.2]) := by
          rw [k7]
          rw [k1] at ok
          simp only [List.map_append, List.map_cons] at ok
          exact okr_step ok
        obtain ⟨st', acc', e1, e2, e3, e4, e5⟩ := pt_step (cl := cl) (fu := fu) (q := q) (a2 := a2) (a3 := a3) k5 (k4.get (h.cel x hx) fun z => z) k6 okx
        refine .inl ⟨[some (.ref q), some (.ref st.length), some (.int x.2.1), some (.ref x.1)], st', ?_, (), _, _, done ++ [x], rest, acc', by simp [k1], rfl, rfl, k4.trans2 e2 (fun i hi y => by cases y; exact absurd hi (Nat.lt_irrefl _)), e3, e4, ?_⟩
        · simp -implicitDefEqProofs only [withT, bindT, bindTs, itemOf, List.set]
          exact e1
        · rw [e5, k7, List.map_append]
          simp only [List.map_cons, List.map_nil]
          rw [merge_app])
  have z : rest = [] := by
    cases rest with
    | nil => rfl
    | cons _ _ => simp at k2
  subst z
  simp only [List.append_nil] at k1
  subst k1
  subst k3
  obtain ⟨b', g1, g2, g3, g4⟩ := gc_race (okOld_fr _ k4) k4 k5 k6
  refine ⟨b', acc, ?_, ⟨g3, fun i hi _ => (g4 i hi).trans (k4.2 i hi fun z => z)⟩, g2, k6, k7⟩
  unfold runD
  rw [hb, hp, hN]
  have hl := h0.lst
  simp -implicitDefEqProofs only [b_put_together, withT_nm, evSs, evS, evE, evEs, evO, evAnds, evOrs, evSr, evIfs, evGs, boolR_bl, boolS_bl, toS_ok, seq_nx, seq_ret, out_ret, out_nx, Rgc_ok, R.bind_ok, List.getElem?_cons_zero, List.getElem?_cons_succ, List.set, if_true, if_false, Bool.false_eq_true, ixW_tup, ixW_ref, setW_ref, binW_add, binW_addL, cmpW_eq, cmpW_ne, eqW_int, bmW_app, biW_listL, srcW_ref, srcW_tup, unset, List.length_cons, List.length_nil, Nat.zero_add, Nat.reduceAdd, Nat.reduceSub, List.replicate, List.map, List.cons_append, List.nil_append, Nat.zero_le, hl]
  rw [e]
  simp -implicitDefEqProofs only [withT_nm, evSs, evS, evE, evEs, evO, evAnds, evOrs, evSr, evIfs, evGs, boolR_bl, boolS_bl, toS_ok, seq_nx, seq_ret, out_ret, out_nx, Rgc_ok, R.bind_ok, List.getElem?_cons_zero, List.getElem?_cons_succ, List.set, if_true, if_false, Bool.false_eq_true, ixW_tup, ixW_ref, setW_ref, binW_add, binW_addL, cmpW_eq, cmpW_ne, eqW_int, bmW_app, biW_listL, srcW_ref, srcW_tup, unset, List.length_cons, List.length_nil, Nat.zero_add, Nat.reduceAdd]
  exact g1

theorem cut_to {xs : List W} {n : Nat} (h : n ≤ xs.length) : cutW xs none (some (n : Int)) = xs.take n := by
  unfold cutW
  rw [HT.sIx_none, HT.sIx_nat]
  simp [Nat.min_eq_left h]
theorem cut_from {xs : List W} {n : Nat} (h : n ≤ xs.length) : cutW xs (some (n : Int)) none = xs.drop n := by
  unfold cutW
  rw [HT.sIx_none, HT.sIx_nat, Nat.min_eq_left h]
  exact List.take_of_length_le (by simp)
theorem merge_from (done : List TV) (acc : List TV) : acc.foldl mg (merge done) = merge (done ++ acc) := by simp [merge]
/-- a turn is put behind -/
theorem put_turn {q f : Nat} {acc : List Turn} {v : TV} (hf : Race st f acc) (hn : ∀ y ∈ acc, f < y.1) (hl : f < st.length) : Race ((st ++ [Cell.lst v.2]).set f (Cell.lst (acc.map itemOf ++ [W.tup [W.int v.1, W.ref st.length]]))) f (acc ++ [(st.length, v)]) ∧ (∀ y ∈ acc ++ [(st.length, v)], f < y.1) ∧ Fr (one f) st ((st ++ [Cell.lst v.2]).set f (Cell.lst (acc.map itemOf ++ [W.tup [W.int v.1, W.ref st.length]]))) := by
  have hn' : ∀ y ∈ acc ++ [(st.length, v)], f < y.1 := by
    intro y hy
    rcases List.mem_append.mp hy with h | h
    · exact hn y h
    · obtain rfl := List.mem_singleton.mp h
      exact hl
  refine ⟨⟨?_, ?_⟩, hn', (Fr.app _ st _).trans (Fr.one _ _ _)⟩
  · rw [List.getElem?_set_self (by simp; omega)]
    simp [itemOf]
  · intro y hy
    have hy' := hn' y hy
    rw [List.getElem?_set_ne (by omega)]
    rcases List.mem_append.mp hy with h | h
    · exact (Fr.app nix st _).get (hf.cel y h) fun z => z
    · obtain rfl := List.mem_singleton.mp h
      exact app_get st _
/-- how what is parted goes with the whole -/
structure Parts (v w : List TV) : Prop where
  mer : merge w = merge v
  sz : tot w ≤ 2 * tot v
  all : ∀ t ∈ w, 0 ≤ t.1 ∧ t.1 < 1000 ∧ ∀ x ∈ t.2, Pick x
theorem Parts.whole {v w : List TV} (h : Parts v w) {x : TV} (okx : 0 ≤ x.1 ∧ x.1 < 1000 ∧ ∀ y ∈ x.2, Pick y) : Parts (v ++ [x]) (w ++ [(x.1, x.2.drop 0)]) := by
  refine ⟨?_, ?_, fun t ht => ?_⟩
  · rw [merge_app, merge_app, h.mer]
    rfl
  · have := h.sz
    simp only [tot_app, tot, List.drop_zero]
    omega
  · rcases List.mem_append.mp ht with ht | ht
    · exact h.all t ht
    · obtain rfl := List.mem_singleton.mp ht
      exact okx
theorem Parts.two {v w : List TV} (h : Parts v w) {x : TV} {n : Nat} (okx : 0 ≤ x.1 ∧ x.1 < 1000 ∧ ∀ y ∈ x.2, Pick y) (hn : n ≤ x.2.length) : Parts (v ++ [x]) (w ++ [(x.1, x.2.take n)] ++ [(x.1, x.2.drop n)]) := by
  refine ⟨?_, ?_, fun t ht => ?_⟩
  · rw [merge_app, merge_app, merge_app, h.mer, mg_split, List.take_append_drop]
  · have := h.sz
    simp only [tot_app, tot, List.length_take, List.length_drop]
    omega
  · rcases List.mem_append.mp ht with ht | ht
    · rcases List.mem_append.mp ht with ht | ht
      · exact h.all t ht
      · obtain rfl := List.mem_singleton.mp ht
        exact ⟨okx.1, okx.2.1, fun y hy => okx.2.2 y (List.mem_of_mem_take hy)⟩
    · obtain rfl := List.mem_singleton.mp ht
      exact ⟨okx.1, okx.2.1, fun y hy => okx.2.2 y (List.mem_of_mem_drop hy)⟩
theorem parted_run {cl' : Nat → List W → Sto → R W} {fu' : Nat} (hb : d.body = b_law_parted) (hp : d.ps.length = 2) (hN : d.N.length = 6) {p q : Nat} {rs : List Turn} (hcl : ∀ ws st, cl 2 ws st = runD cl' fu' d_law_take ws st) (hpo : Pool st p) (hpq : ∀ x ∈ rs, x.1 ≠ p) (hqp : q ≠ p) (h : Race st q rs) (ok : Okr (rs.map (·.2))) (h1 : ∀ x ∈ rs, 0 < x.2.2.length) :
    ∃ st' acc, runD cl fu d [.ref p, .ref q] st = .ok (.ref st.length) st' ∧ Fr (one p) st st' ∧ Pool st' p ∧ Race st' st.length acc ∧ (∀ y ∈ acc, st.length < y.1) ∧ Parts (rs.map (·.2)) (acc.map (·.2)) := by
  obtain ⟨c0, m0, ep, _, _⟩ := hpo
  have hpl := (List.getElem?_eq_some_iff.mp ep).1
  have hq := (List.getElem?_eq_some_iff.mp h.lst).1
  have h0 : Race (st ++ [.lst []]) q rs := h.fr (Fr.app nix st _)
  have sz : ∀ n, n ≤ 1000 → n < sizeLine := fun n h => Nat.lt_of_le_of_lt h (by decide)
  obtain ⟨r', st', e, a3, a4, a5, done, rest, acc, k1, k2, k3, k4, kp, k5, k6, k7⟩ := loopF_to (f := fun w r st => withT (.tup [(.nm 3), (.nm 4)]) w r (fun r' => evSs cl fu b_law_parted_1 r' st) .stk)
    (P := fun us r s => ∃ (a3 a4 a5 : Option W) (done rest acc : List Turn), rs = done ++ rest ∧ us = rest.map itemOf ∧ r = [some (.ref p), some (.ref q), some (.ref st.length), a3, a4, a5] ∧ Fr (one p) st s ∧ Pool s p ∧ Race s st.length acc ∧ (∀ y ∈ acc, st.length < y.1) ∧ Parts (done.map (·.2)) (acc.map (·.2)))
    (.cell q (.lst (rs.map itemOf))) (rs.map itemOf) [some (.ref p), some (.ref q), some (.ref st.length), none, none, none] (st ++ [.lst []])
    ⟨none, none, none, [], rs, [], rfl, rfl, rfl, Fr.app _ st _, ⟨c0, m0, (Fr.app nix st _).get ep fun z => z, by assumption, by assumption⟩, ⟨app_get st _, fun x hx => by simp at hx⟩, fun y hy => by simp at hy, rfl, Nat.zero_le _, fun t ht => by simp at ht⟩
    (fun us r s hP => by
      obtain ⟨a3, a4, a5, done, rest, acc, k1, k2, k3, k4, kp, k5, k6, k7⟩ := hP
      show (match s[q]? with
        | some c' => c'.beq (.lst (rs.map itemOf))
        | none => false) = true
      rw [k4.get h.lst hqp]
      exact Cell.beq_refl _)
    (fun w us r s hP => by
      obtain ⟨a3, a4, a5, done, rest, acc, k1, k2, k3, k4, kp, k5, k6, k7⟩ := hP
      cases rest with
      | nil => simp at k2
      | cons x rest =>
        simp only [List.map_cons, List.cons.injEq] at k2
        obtain ⟨rfl, rfl⟩ := k2
        subst k3
        have hx : x ∈ rs := by rw [k1]; simp
        have xpos := h1 x hx
        have okx := ok.all x.2 (List.mem_map.mpr ⟨x, hx, rfl⟩)
        have xsz := tot_mem (v := rs.map (·.2)) (t := x.2) (List.mem_map.mpr ⟨x, hx, rfl⟩)
        have rsz := ok.sz
        have asz : acc.length ≤ 400 := by
          have h2 := tot_len (acc.map (·.2))
          have h3 := k7.sz
          rw [k1] at rsz
          simp only [List.map_append, tot_app] at rsz
          rw [List.length_map] at h2
          omega
        have hs : s[x.1]? = some (.lst x.2.2) := k4.get (h.cel x hx) (hpq x hx)
        obtain ⟨at_, s2, e1, b1, b2, b3, b4, b5⟩ := take_run (cl := cl') (fu := fu') (d := d_law_take) (st := s) (p := p) (many := (x.2.2.length : Int)) rfl rfl rfl kp (by omega) (by omega)
        obtain ⟨n, rfl⟩ := Int.eq_ofNat_of_zero_le b1
        have hn : n ≤ x.2.2.length := by omega
        have np : ¬ one p st.length := fun z => by cases z; exact Nat.lt_irrefl _ hpl
        have nf : ∀ y ∈ acc, ¬ one p y.1 := fun y hy z => by cases z; have := k6 y hy; omega
        have k5' : Race s2 st.length acc := ⟨b4.get k5.lst np, fun y hy => b4.get (k5.cel y hy) (nf y hy)⟩
        have hs2 : s2[x.1]? = some (.lst x.2.2) := b4.get hs (hpq x hx)
        have hfl := (List.getElem?_eq_some_iff.mp k5'.lst).1
        have size2 := sz
        -- the second part
        have last : ∀ (s3 : Sto) (acc3 : List Turn), Race s3 st.length acc3 → (∀ y ∈ acc3, st.length < y.1) → acc3.length ≤ 999 → s3[x.1]? = some (.lst x.2.2) → Pool s3 p → Fr (one p) st s3 → ∃ s4, evSs cl fu [.ex (.bm .append (.v 2) [(.tup [(.v 3), (.sl (.v 4) (some (.v 5)) none)])])] [some (.ref p), some (.ref q), some (.ref st.length), some (.int x.2.1), some (.ref x.1), some (.int n)] s3 = .nx [some (.ref p), some (.ref q), some (.ref st.length), some (.int x.2.1), some (.ref x.1), some (.int n)] s4 ∧
            Race s4 st.length (acc3 ++ [(s3.length, (x.2.1, x.2.2.drop n))]) ∧ (∀ y ∈ acc3 ++ [(s3.length, (x.2.1, x.2.2.drop n))], st.length < y.1) ∧ Fr (one p) st s4 ∧ Pool s4 p := by
          intro s3 acc3 r1 r2 r3 r4 r5 r6
          have l3 := (List.getElem?_eq_some_iff.mp r1.lst).1
          obtain ⟨g1, g2, g3⟩ := put_turn (q := q) (v := (x.2.1, x.2.2.drop n)) r1 r2 l3
          refine ⟨_, ?_, g1, g2, r6.trans2 g3 (fun i hi y => by cases y; exact absurd hi (Nat.lt_irrefl _)), r5.fr g3 (fun z => by cases z; exact Nat.lt_irrefl _ hpl)⟩
          have w1 : (s3 ++ [Cell.lst (x.2.2.drop n)])[st.length]? = some (.lst (acc3.map itemOf)) := (Fr.app nix s3 _).get r1.lst fun z => z
          have w2 : (acc3.map itemOf).length < sizeLine := by
            rw [List.length_map]
            exact sz _ (by omega)
          have w3 : (2 : Nat) ≤ sizeLine := by decide
          simp -implicitDefEqProofs only [withT_nm, evSs, evS, evE, evEs, evO, evAnds, evOrs, evSr, evIfs, evGs, boolR_bl, boolS_bl, toS_ok, seq_nx, seq_ret, out_ret, out_nx, Rgc_ok, R.bind_ok, List.getElem?_cons_zero, List.getElem?_cons_succ, List.set, if_true, if_false, Bool.false_eq_true, ixW_tup, ixW_ref, setW_ref, binW_add, binW_addL, cmpW_eq, cmpW_ne, eqW_int, bmW_app, biW_listL, srcW_ref, srcW_tup, unset, List.length_cons, List.length_nil, Nat.zero_add, Nat.reduceAdd, slW_ref, r4, cut_from hn, w1, w2, w3]
        by_cases hz : n = 0
        · subst hz
          obtain ⟨s4, e2, g1, g2, g3, g4⟩ := last s2 acc k5' k6 (by omega) hs2 b3 (k4.trans b4)
          refine .inl ⟨[some (.ref p), some (.ref q), some (.ref st.length), some (.int x.2.1), some (.ref x.1), some (.int ((0 : Nat) : Int))], s4, ?_, _, _, _, done ++ [x], rest, _, by simp [k1], rfl, rfl, g3, g4, g1, g2, ?_⟩
          · simp -implicitDefEqProofs only [withT, bindT, bindTs, itemOf, List.set]
            simp -implicitDefEqProofs only [b_law_parted_1, withT_nm, evSs, evS, evE, evEs, evO, evAnds, evOrs, evSr, evIfs, evGs, boolR_bl, boolS_bl, toS_ok, seq_nx, seq_ret, out_ret, out_nx, Rgc_ok, R.bind_ok, List.getElem?_cons_zero, List.getElem?_cons_succ, List.set, if_true, if_false, Bool.false_eq_true, ixW_tup, ixW_ref, setW_ref, binW_add, binW_addL, cmpW_eq, cmpW_ne, eqW_int, bmW_app, biW_listL, srcW_ref, srcW_tup, unset, List.length_cons, List.length_nil, Nat.zero_add, Nat.reduceAdd, biW_lenL, hs, hcl, e1, cmpW_gt, Int.ofNat_eq_natCast, (show decide ((0 : Int) < ((0 : Nat) : Int)) = false from rfl), slW_ref, hs2]
            simp -implicitDefEqProofs only [withT_nm, evSs, evS, evE, evEs, evO, evAnds, evOrs, evSr, evIfs, evGs, boolR_bl, boolS_bl, toS_ok, seq_nx, seq_ret, out_ret, out_nx, Rgc_ok, R.bind_ok, List.getElem?_cons_zero, List.getElem?_cons_succ, List.set, if_true, if_false, Bool.false_eq_true, ixW_tup, ixW_ref, setW_ref, binW_add, binW_addL, cmpW_eq, cmpW_ne, eqW_int, bmW_app, biW_listL, srcW_ref, srcW_tup, unset, List.length_cons, List.length_nil, Nat.zero_add, Nat.reduceAdd, slW_ref, hs2] at e2
            exact e2
          · simp only [List.map_append, List.map_cons, List.map_nil]
            exact k7.whole okx
        · have hd : decide ((0 : Int) < (n : Int)) = true := decide_eq_true (by omega)
          obtain ⟨g1, g2, g3⟩ := put_turn (q := q) (v := (x.2.1, x.2.2.take n)) k5' k6 hfl
          obtain ⟨s4, e2, q1, q2, q3, q4⟩ := last _ _ g1 g2 (by rw [List.length_append]; simp; omega) (by
            rw [List.getElem?_set_ne (by have := (List.getElem?_eq_some_iff.mp (h.cel x hx)).1; omega)]
            exact (Fr.app nix s2 _).get hs2 fun z => z) (b3.fr g3 (fun z => by cases z; exact Nat.lt_irrefl _ hpl)) ((k4.trans b4).trans2 g3 (fun i hi y => by cases y; exact absurd hi (Nat.lt_irrefl _)))
          refine .inl ⟨[some (.ref p), some (.ref q), some (.ref st.length), some (.int x.2.1), some (.ref x.1), some (.int (n : Int))], s4, ?_, _, _, _, done ++ [x], rest, _, by simp [k1], rfl, rfl, q3, q4, q1, q2, ?_⟩
          · have w1 : (s2 ++ [Cell.lst (x.2.2.take n)])[st.length]? = some (.lst (acc.map itemOf)) := (Fr.app nix s2 _).get k5'.lst fun z => z
            have w2 : (acc.map itemOf).length < sizeLine := by
              rw [List.length_map]
              exact sz _ (by omega)
            have w3 : (2 : Nat) ≤ sizeLine := by decide
            simp -implicitDefEqProofs only [withT, bindT, bindTs, itemOf, List.set]
            simp -implicitDefEqProofs only [b_law_parted_1, withT_nm, evSs, evS, evE, evEs, evO, evAnds, evOrs, evSr, evIfs, evGs, boolR_bl, boolS_bl, toS_ok, seq_nx, seq_ret, out_ret, out_nx, Rgc_ok, R.bind_ok, List.getElem?_cons_zero, List.getElem?_cons_succ, List.set, if_true, if_false, Bool.false_eq_true, ixW_tup, ixW_ref, setW_ref, binW_add, binW_addL, cmpW_eq, cmpW_ne, eqW_int, bmW_app, biW_listL, srcW_ref, srcW_tup, unset, List.length_cons, List.length_nil, Nat.zero_add, Nat.reduceAdd, biW_lenL, hs, hcl, e1, cmpW_gt, Int.ofNat_eq_natCast, hd, slW_ref, hs2, cut_to hn, w1, w2, w3]
            simp -implicitDefEqProofs only [withT_nm, evSs, evS, evE, evEs, evO, evAnds, evOrs, evSr, evIfs, evGs, boolR_bl, boolS_bl, toS_ok, seq_nx, seq_ret, out_ret, out_nx, Rgc_ok, R.bind_ok, List.getElem?_cons_zero, List.getElem?_cons_succ, List.set, if_true, if_false, Bool.false_eq_true, ixW_tup, ixW_ref, setW_ref, binW_add, binW_addL, cmpW_eq, cmpW_ne, eqW_int, bmW_app, biW_listL, srcW_ref, srcW_tup, unset, List.length_cons, List.length_nil, Nat.zero_add, Nat.reduceAdd, slW_ref] at e2
            exact e2
          · simp only [List.map_append, List.map_cons, List.map_nil]
            exact k7.two okx hn)
  have z : rest = [] := by
    cases rest with
    | nil => rfl
    | cons _ _ => simp at k2
  subst z
  simp only [List.append_nil] at k1
  subst k1
  subst k3
  have np : ¬ one p st.length := fun z => by cases z; exact Nat.lt_irrefl _ hpl
  obtain ⟨c', m', ep', q1, q2⟩ := kp
  obtain ⟨b', g1, g2, g3, g4⟩ := gc_race (okOld_frX (X := one p) st.length k4 fun i hi y => by cases y; exact ⟨_, ep', by simp [Cell.und, W.unds, W.und]⟩) k4 k5 k6
  refine ⟨b', acc, ?_, ⟨g3, fun i hi y => (g4 i hi).trans (k4.2 i hi y)⟩, ⟨c', m', (g4 p hpl).trans ep', q1, q2⟩, g2, k6, k7⟩
  unfold runD
  rw [hb, hp, hN]
  have hl := h0.lst
  simp -implicitDefEqProofs only [b_law_parted, withT_nm, evSs, evS, evE, evEs, evO, evAnds, evOrs, evSr, evIfs, evGs, boolR_bl, boolS_bl, toS_ok, seq_nx, seq_ret, out_ret, out_nx, Rgc_ok, R.bind_ok, List.getElem?_cons_zero, List.getElem?_cons_succ, List.set, if_true, if_false, Bool.false_eq_true, ixW_tup, ixW_ref, setW_ref, binW_add, binW_addL, cmpW_eq, cmpW_ne, eqW_int, bmW_app, biW_listL, srcW_ref, srcW_tup, unset, List.length_cons, List.length_nil, Nat.zero_add, Nat.reduceAdd, Nat.reduceSub, List.replicate, List.map, List.cons_append, List.nil_append, Nat.zero_le, hl]
  rw [e]
  simp -implicitDefEqProofs only [withT_nm, evSs, evS, evE, evEs, evO, evAnds, evOrs, evSr, evIfs, evGs, boolR_bl, boolS_bl, toS_ok, seq_nx, seq_ret, out_ret, out_nx, Rgc_ok, R.bind_ok, List.getElem?_cons_zero, List.getElem?_cons_succ, List.set, if_true, if_false, Bool.false_eq_true, ixW_tup, ixW_ref, setW_ref, binW_add, binW_addL, cmpW_eq, cmpW_ne, eqW_int, bmW_app, biW_listL, srcW_ref, srcW_tup, unset, List.length_cons, List.length_nil, Nat.zero_add, Nat.reduceAdd]
  exact g1
end
section
variable {n : Nat} {st : Sto}
abbrev cN (n : Nat) : Nat → List W → Sto → R W := callN tab 0 (n + 1)
theorem cl0 (ws : List W) (st : Sto) : cN n 0 ws st = runD (callN tab 0 n) 0 d_put_together ws st := rfl
theorem cl1 (ws : List W) (st : Sto) : cN n 1 ws st = runD (callN tab 0 n) 0 d_law_pool ws st := rfl
theorem cl2 (ws : List W) (st : Sto) : cN n 2 ws st = runD (callN tab 0 n) 0 d_law_take ws st := rfl
theorem cl3 (ws : List W) (st : Sto) : cN n 3 ws st = runD (callN tab 0 n) 0 d_law_due ws st := rfl
theorem cl4 (ws : List W) (st : Sto) : cN n 4 ws st = runD (callN tab 0 n) 0 d_law_parted ws st := rfl
theorem repr_race {q : Nat} {rs : List Turn} (h : Race st q rs) (k : Okr (rs.map (·.2))) : biW .repr [.ref q] st = .ok (.str (PyData.list ((rs.map (·.2)).map tD)).shown) st := repr_ok (h.dat k) k.fine
/-- what comes is changed: what it was made of stays -/
theorem step3 {i dq : Nat} {xs ds : List Turn} {a0 a1 a2 a3 a4 a5 a6 a9 a10 a11 : Option W} (hi : Race st i xs) (oi : Okr (xs.map (·.2))) (hd : Race st dq ds) (od : Okr (ds.map (·.2))) (hm : merge (xs.map (·.2)) = ds.map (·.2)) :
    ∃ st' b1 b9 b11, evSs (cN n) 0 b_law_3 [a0, a1, a2, a3, a4, a5, a6, some (.ref dq), some (.ref i), a9, a10, a11] st = .nx [a0, b1, a2, a3, a4, a5, a6, some (.ref dq), some (.ref i), b9, a10, b11] st' ∧ Fr nix st st' := by
  obtain ⟨s1, acc, e1, f1, h1, n1, m1⟩ := pt_run (cl := callN tab 0 n) (fu := 0) (d := d_put_together) rfl rfl rfl hi oi
  have o1 : Okr (acc.map (·.2)) := by rw [m1]; exact oi.merge
  have r1 := repr_race h1 o1
  have r2 := repr_race (hd.fr f1) od
  rw [m1, hm] at r1
  have l1 := h1.lst
  have alen : acc.length ≤ 200 := by
    have h2 := tot_len (acc.map (·.2))
    have h3 := o1.sz
    rw [List.length_map] at h2
    omega
  have hsl : st.length < s1.length := (List.getElem?_eq_some_iff.mp l1).1
  -- the turns' own rows grow
  obtain ⟨r', s2, e2, b1, b11, rest, k1, k2, k3, k4, k5, k6⟩ := loopF_to (f := fun w r st => withT (.tup [(.nm 11), (.nm 1)]) w r (fun r' => evSs (cN n) 0 b_law_2 r' st) .stk)
    (P := fun us r s => ∃ (b1 b11 : Option W) (rest : List Turn), us = rest.map itemOf ∧ (∀ y ∈ rest, y ∈ acc) ∧ r = [a0, b1, a2, a3, a4, a5, a6, some (.ref dq), some (.ref i), some (.ref st.length), a10, b11] ∧ Fr nix st s ∧ s[st.length]? = some (.lst (acc.map itemOf)) ∧ (∀ y ∈ acc, ∃ l, s[y.1]? = some (.lst l) ∧ l.length + rest.length ≤ 1000))
    (.cell st.length (.lst (acc.map itemOf))) (acc.map itemOf) [a0, a1, a2, a3, a4, a5, a6, some (.ref dq), some (.ref i), some (.ref st.length), a10, a11] s1
    ⟨a1, a11, acc, rfl, fun y h => h, rfl, f1, l1, fun y hy => ⟨y.2.2, h1.cel y hy, by
      have h2 := tot_mem (v := acc.map (·.2)) (t := y.2) (List.mem_map.mpr ⟨y, hy, rfl⟩)
      have h3 := o1.sz
      omega⟩⟩
    (fun us r s hP => by
      obtain ⟨b1, b11, rest, k1, k2, k3, k4, k5, k6⟩ := hP
      show (match s[st.length]? with
        | some c' => c'.beq (.lst (acc.map itemOf))
        | none => false) = true
      rw [k5]
      exact Cell.beq_refl _)
    (fun w us r s hP => by
      obtain ⟨b1, b11, rest, k1, k2, k3, k4, k5, k6⟩ := hP
      cases rest with
      | nil => simp at k1
      | cons x rest =>
        simp only [List.map_cons, List.cons.injEq] at k1
        obtain ⟨rfl, rfl⟩ := k1
        subst k3
        have hx : x ∈ acc := k2 x (by simp)
        obtain ⟨l, g1, g2⟩ := k6 x hx
        have gl := (List.getElem?_eq_some_iff.mp g1).1
        have sz : l.length < sizeLine := Nat.lt_of_le_of_lt (show l.length ≤ 1000 by omega) (by decide)
        refine .inl ⟨[a0, some (.ref x.1), a2, a3, a4, a5, a6, some (.ref dq), some (.ref i), some (.ref st.length), a10, some (.int x.2.1)], s.set x.1 (.lst (l ++ [.int 9])), ?_, some (.ref x.1), some (.int x.2.1), rest, rfl, fun y hy => k2 y (by simp [hy]), rfl, k4.trans2 (Fr.one s x.1 _) (fun j hj y => by cases y; have := n1 x hx; omega), ?_, fun y hy => ?_⟩
        · simp -implicitDefEqProofs only [withT, bindT, bindTs, itemOf, List.set]
          simp -implicitDefEqProofs only [b_law_2, withT_nm, evSs, evS, evE, evEs, evO, evAnds, evOrs, evSr, evIfs, evGs, boolR_bl, boolS_bl, toS_ok, seq_nx, seq_ret, out_ret, out_nx, Rgc_ok, R.bind_ok, List.getElem?_cons_zero, List.getElem?_cons_succ, List.set, if_true, if_false, Bool.false_eq_true, ixW_tup, ixW_ref, setW_ref, binW_add, binW_addL, cmpW_eq, cmpW_ne, eqW_int, bmW_app, biW_listL, srcW_ref, srcW_tup, unset, List.length_cons, List.length_nil, Nat.zero_add, Nat.reduceAdd, g1, sz]
        · rw [List.getElem?_set_ne (by have := n1 x hx; omega)]
          exact k5
        · by_cases z : x.1 = y.1
          · rw [← z, List.getElem?_set_self gl]
            exact ⟨_, rfl, by simp at g2 ⊢; omega⟩
          · rw [List.getElem?_set_ne z]
            obtain ⟨l', g3, g4⟩ := k6 y hy
            exact ⟨l', g3, by simp at g4; omega⟩)
  subst k3
  have sz : (acc.map itemOf).length < sizeLine := by
    rw [List.length_map]
    exact Nat.lt_of_le_of_lt (show acc.length ≤ 1000 by omega) (by decide)
  refine ⟨s2.set st.length (.lst (acc.map itemOf ++ [.non])), b1, some (.ref st.length), b11, ?_, k4.trans2 (Fr.one s2 st.length _) (fun j hj y => by cases y; exact absurd hj (Nat.lt_irrefl _))⟩
  simp -implicitDefEqProofs only [b_law_3, withT_nm, evSs, evS, evE, evEs, evO, evAnds, evOrs, evSr, evIfs, evGs, boolR_bl, boolS_bl, toS_ok, seq_nx, seq_ret, out_ret, out_nx, Rgc_ok, R.bind_ok, List.getElem?_cons_zero, List.getElem?_cons_succ, List.set, if_true, if_false, Bool.false_eq_true, ixW_tup, ixW_ref, setW_ref, binW_add, binW_addL, cmpW_eq, cmpW_ne, eqW_int, bmW_app, biW_listL, srcW_ref, srcW_tup, unset, List.length_cons, List.length_nil, Nat.zero_add, Nat.reduceAdd, cl0, e1, isTy_ref, l1, Bool.not_true, r1, r2, eqW_str, decide_true, Bool.not_false, decide_eq_true_eq]
  rw [e2]
  simp -implicitDefEqProofs only [withT_nm, evSs, evS, evE, evEs, evO, evAnds, evOrs, evSr, evIfs, evGs, boolR_bl, boolS_bl, toS_ok, seq_nx, seq_ret, out_ret, out_nx, Rgc_ok, R.bind_ok, List.getElem?_cons_zero, List.getElem?_cons_succ, List.set, if_true, if_false, Bool.false_eq_true, ixW_tup, ixW_ref, setW_ref, binW_add, binW_addL, cmpW_eq, cmpW_ne, eqW_int, bmW_app, biW_listL, srcW_ref, srcW_tup, unset, List.length_cons, List.length_nil, Nat.zero_add, Nat.reduceAdd, k5, sz]
theorem range_w {lo hi : Int} (h1 : -(2 ^ 62) ≤ lo) (h2 : lo < 2 ^ 62) (h3 : -(2 ^ 62) ≤ hi) (h4 : hi < 2 ^ 62) (st : Sto) : rangeW lo hi st = .ok (.no, (List.range (hi - lo).toNat).map fun (k : Nat) => W.int (lo + (k : Int))) st := by
  unfold rangeW
  rw [if_pos ⟨h1, h2, h3, h4⟩]
theorem one_of {p i : Nat} (h : i ≠ p) : ¬ one p i := h
/-- one turn of the race that is drawn -/
theorem step1 {p q : Nat} {rs : List Turn} {a0 a1 a2 a5 a6 a7 a8 a9 a10 a11 : Option W} (hp : Pool st p) (hr : Race st q rs) (hn : ∀ y ∈ rs, q < y.1) (hpq : p < q) (hl : rs.length ≤ 100) :
    ∃ st' v b1, evSs (cN n) 0 b_law_1 [a0, a1, a2, some (.ref p), some (.ref q), a5, a6, a7, a8, a9, a10, a11] st = .nx [a0, b1, a2, some (.ref p), some (.ref q), a5, a6, a7, a8, a9, a10, a11] st' ∧ Pool st' p ∧ Race st' q (rs ++ [v]) ∧ q < v.1 ∧ (0 ≤ v.2.1 ∧ v.2.1 < 1000 ∧ ∀ x ∈ v.2.2, Pick x) ∧ 0 < v.2.2.length ∧ v.2.2.length ≤ 3 := by
  obtain ⟨x, s1, e1, x1, x2, p1, f1, z1⟩ := take_run (cl := callN tab 0 n) (fu := 0) (d := d_law_take) (st := st) (p := p) (many := 3) rfl rfl rfl hp (by omega) (by omega)
  obtain ⟨m, rfl⟩ := Int.eq_ofNat_of_zero_le x1
  have np : ∀ s : Sto, st.length ≤ s.length → ∀ i, p < i → ¬ one p i := fun s h i hi z => by cases z; exact Nat.lt_irrefl _ hi
  -- the picks
  obtain ⟨picks, s2, e2, us, k1, k2, k3, k4⟩ := loopC_to (f := fun w st acc => withT (.nm 10) w (unset [a0, a1, a2, some (.ref p), some (.ref q), a5, a6, a7, a8, a9, a10, a11] [10]) (fun r' => (evIfs (cN n) [] r' st).bind fun b st => if b = true then evGs (cN n) [] (fun r st acc => (evE (cN n) (.ix (.lst [.non, (.int 0), (.int 1), (.int 2)]) (.call 2 [(.v 3), (.int 4)])) r st).bind fun w st => if acc.length < sizeLine then .ok (acc ++ [w]) st else .stk) r' st acc else .ok acc st) .stk)
    (P := fun us s acc => ∃ (_ : Unit), Fr (one p) st s ∧ Pool s p ∧ (∀ x ∈ acc, Pick x) ∧ acc.length + us.length = m + 1) .no ((List.range (m + 1)).map fun (k : Nat) => W.int (0 + (k : Int))) s1 []
    ⟨(), f1, p1, fun x hx => by simp at hx, by simp⟩ (fun _ _ _ _ => rfl) (fun w us s acc hP => by
      obtain ⟨_, k1, k2, k3, k4⟩ := hP
      have hs : Pool (s ++ [.lst [.non, .int 0, .int 1, .int 2]]) p := k2.fr (Fr.app nix s _) fun z => z
      obtain ⟨y, s3, e3, y1, y2, p3, f3, z3⟩ := take_run (cl := callN tab 0 n) (fu := 0) (d := d_law_take) (p := p) (many := 4) rfl rfl rfl hs (by omega) (by omega)
      have hc : s3[s.length]? = some (.lst [.non, .int 0, .int 1, .int 2]) := by
        refine f3.get (app_get s _) (one_of ?_)
        obtain ⟨c, m', e, _, _⟩ := k2
        have := (List.getElem?_eq_some_iff.mp e).1
        omega
      have hy : ∃ w, L2.atI [W.non, .int 0, .int 1, .int 2] y = some w ∧ Pick w := by
        have : y = 0 ∨ y = 1 ∨ y = 2 ∨ y = 3 := by omega
        rcases this with rfl | rfl | rfl | rfl
        · exact ⟨.non, rfl, .inl rfl⟩
        · exact ⟨.int 0, rfl, .inr ⟨0, rfl, by omega, by omega⟩⟩
        · exact ⟨.int 1, rfl, .inr ⟨1, rfl, by omega, by omega⟩⟩
        · exact ⟨.int 2, rfl, .inr ⟨2, rfl, by omega, by omega⟩⟩
      obtain ⟨v, v1, v2⟩ := hy
      have sz : acc.length < sizeLine := Nat.lt_of_le_of_lt (show acc.length ≤ 1000 by omega) (by decide)
      have s4 : (4 : Nat) ≤ sizeLine := by decide
      refine ⟨acc ++ [v], s3, ?_, (), (k1.trans (Fr.app _ s _)).trans f3, p3, fun x hx => ?_, by simp only [List.length_append, List.length_cons, List.length_nil] at k4 ⊢; omega⟩
      · simp -implicitDefEqProofs only [withT_nm, evSs, evS, evE, evEs, evO, evAnds, evOrs, evSr, evIfs, evGs, boolR_bl, boolS_bl, toS_ok, seq_nx, seq_ret, out_ret, out_nx, Rgc_ok, R.bind_ok, List.getElem?_cons_zero, List.getElem?_cons_succ, List.set, if_true, if_false, Bool.false_eq_true, ixW_tup, ixW_ref, setW_ref, binW_add, binW_addL, cmpW_eq, cmpW_ne, eqW_int, bmW_app, biW_listL, srcW_ref, srcW_tup, unset, List.length_cons, List.length_nil, Nat.zero_add, Nat.reduceAdd, cl2, e3, hc, v1, sz, s4]
      · rcases List.mem_append.mp hx with h | h
        · exact k3 x h
        · rw [List.mem_singleton.mp h]
          exact v2)
  simp only [List.length_nil, Nat.add_zero] at k4
  have pz : Pool (s2 ++ [Cell.lst picks]) p := k2.fr (Fr.app nix s2 _) fun z => z
  obtain ⟨h, s5, e5, h1, h2, p5, f5, z5⟩ := take_run (cl := callN tab 0 n) (fu := 0) (d := d_law_take) (p := p) (many := 4) rfl rfl rfl pz (by omega) (by omega)
  have gp := (List.getElem?_eq_some_iff.mp hp.choose_spec.choose_spec.1).1
  have f25 : Fr (one p) st s5 := (k1.trans (Fr.app _ s2 _)).trans f5
  have nq : ¬ one p q := one_of (by omega)
  have r5 : Race s5 q rs := ⟨f25.get hr.lst nq, fun y hy => f25.get (hr.cel y hy) (one_of (by have := hn y hy; omega))⟩
  have c5 : s5[s2.length]? = some (.lst picks) := f5.get (app_get s2 _) (one_of (by have := k1.1; omega))
  have q5 := (List.getElem?_eq_some_iff.mp r5.lst).1
  have q2 : q < s2.length := Nat.lt_of_lt_of_le (List.getElem?_eq_some_iff.mp hr.lst).1 k1.1
  have sz : (rs.map itemOf).length < sizeLine := by
    rw [List.length_map]
    exact Nat.lt_of_le_of_lt (show rs.length ≤ 1000 by omega) (by decide)
  have s2l : (2 : Nat) ≤ sizeLine := by decide
  refine ⟨s5.set q (.lst (rs.map itemOf ++ [.tup [.int h, .ref s2.length]])), (s2.length, (h, picks)), some (.ref s2.length), ?_, p5.fr (Fr.one s5 q _) (fun z => by cases z; exact Nat.lt_irrefl _ hpq), ⟨?_, fun y hy => ?_⟩, q2, ⟨h1, by show h < 1000; omega, k3⟩, by show 0 < picks.length; omega, by
    show picks.length ≤ 3
    omega⟩
  · rw [b_law_1, evSs, evS, evE]
    have rw1 : rangeW 0 (1 + (m : Int)) s1 = .ok (.no, (List.range (m + 1)).map fun (k : Nat) => W.int (0 + (k : Int))) s1 := by
      have em : ((1 : Int) + (m : Int) - 0).toNat = m + 1 := by omega
      rw [range_w (by omega) (by omega) (by omega) (by omega), em]
    have er : evSr (cN n) (.rng1 (.bin .Add (.int 1) (.call 2 [(.v 3), (.int 3)]))) [a0, a1, a2, some (.ref p), some (.ref q), a5, a6, a7, a8, a9, a10, a11] st = .ok (.no, (List.range (m + 1)).map fun (k : Nat) => W.int (0 + (k : Int))) s1 := by
      simp -implicitDefEqProofs only [withT_nm, evSs, evS, evE, evEs, evO, evAnds, evOrs, evSr, evIfs, evGs, boolR_bl, boolS_bl, toS_ok, seq_nx, seq_ret, out_ret, out_nx, Rgc_ok, R.bind_ok, List.getElem?_cons_zero, List.getElem?_cons_succ, List.set, if_true, if_false, Bool.false_eq_true, ixW_tup, ixW_ref, setW_ref, binW_add, binW_addL, cmpW_eq, cmpW_ne, eqW_int, bmW_app, biW_listL, srcW_ref, srcW_tup, unset, List.length_cons, List.length_nil, Nat.zero_add, Nat.reduceAdd, cl2, e1, rw1]
    rw [er]
    simp -implicitDefEqProofs only [R.bind_ok, toS_ok]
    rw [e2]
    simp -implicitDefEqProofs only [withT_nm, evSs, evS, evE, evEs, evO, evAnds, evOrs, evSr, evIfs, evGs, boolR_bl, boolS_bl, toS_ok, seq_nx, seq_ret, out_ret, out_nx, Rgc_ok, R.bind_ok, List.getElem?_cons_zero, List.getElem?_cons_succ, List.set, if_true, if_false, Bool.false_eq_true, ixW_tup, ixW_ref, setW_ref, binW_add, binW_addL, cmpW_eq, cmpW_ne, eqW_int, bmW_app, biW_listL, srcW_ref, srcW_tup, unset, List.length_cons, List.length_nil, Nat.zero_add, Nat.reduceAdd, cl2, e5, r5.lst, sz, s2l]
  · rw [List.getElem?_set_self q5]
    simp [itemOf]
  · rcases List.mem_append.mp hy with hy | hy
    · rw [List.getElem?_set_ne (by have := hn y hy; omega)]
      exact r5.cel y hy
    · obtain rfl := List.mem_singleton.mp hy
      rw [List.getElem?_set_ne (by show q ≠ s2.length; omega)]
      exact c5
theorem evSs_cons {cl : Nat → List W → Sto → R W} {fu : Nat} {x : S} {xs : List S} {r r' : Sl} {st st' : Sto} (h : evS cl fu x r st = .nx r' st') : evSs cl fu (x :: xs) r st = evSs cl fu xs r' st' := by
  rw [evSs, h]
  rfl
theorem tot_le {v : List TV} (h : ∀ t ∈ v, t.2.length ≤ 3) : tot v ≤ 4 * v.length := by
  induction v with
  | nil => simp [tot]
  | cons x a ih =>
    have h1 := h x (by simp)
    have h2 := ih fun t ht => h t (by simp [ht])
    simp only [tot, List.length_cons]
    omega
theorem Race.frX {X : Nat → Prop} {st st' : Sto} {q : Nat} {rs : List Turn} (h : Race st q rs) (f : Fr X st st') (n : ¬ X q) (m : ∀ y ∈ rs, ¬ X y.1) : Race st' q rs := ⟨f.get h.lst n, fun x hx => f.get (h.cel x hx) (m x hx)⟩
/-- one draw of the script -/
theorem step5 {ns : List Int} {k : Nat} (hk : k < 1000) {a1 a3 a4 a5 a6 a7 a8 a9 a10 a11 : Option W} : ∃ st' b1 b3 b4 b5 b6 b7 b8 b9 b11, evSs (cN (n + 1)) 0 b_law_5 [some (.scr ns), a1, some (.int k), a3, a4, a5, a6, a7, a8, a9, a10, a11] st = .nx [some (.scr ns), b1, some (.int k), b3, b4, b5, b6, b7, b8, b9, a10, b11] st' := by
  -- the pool
  obtain ⟨s1, e1, p1, f1, l1⟩ := pool_run (cl := callN tab 0 (n + 1)) (fu := 0) (d := d_law_pool) (st := st) (ns := ns) (k := k) rfl rfl rfl (by omega)
  have p2 : Pool (s1 ++ [Cell.lst []]) st.length := p1.fr (Fr.app nix s1 _) fun z => z
  -- how many turns
  obtain ⟨x, s3, e3, x1, x2, p3, f3, z3⟩ := take_run (cl := callN tab 0 (n + 1)) (fu := 0) (d := d_law_take) (p := st.length) (many := 13) rfl rfl rfl p2 (by omega) (by omega)
  obtain ⟨m, rfl⟩ := Int.eq_ofNat_of_zero_le x1
  have hpq : st.length < s1.length := by omega
  have r3 : Race s3 s1.length [] := ⟨f3.get (app_get s1 _) (one_of (by omega)), fun y hy => by simp at hy⟩
  have rg : rangeW 0 (m : Int) s3 = .ok (.no, (List.range m).map fun (k : Nat) => W.int (0 + (k : Int))) s3 := by
    have em : ((m : Int) - 0).toNat = m := by omega
    rw [range_w (by omega) (by omega) (by omega) (by omega), em]
  obtain ⟨r4, s4, e4, b1, b5, rs, k1, k2, k3, k4, k5, k6⟩ := loopF_to (f := fun w r st => evSs (cN (n + 1)) 0 b_law_1 (r.set 5 (some w)) st)
    (P := fun us r s => ∃ (b1 b5 : Option W) (rs : List Turn), r = [some (.scr ns), b1, some (.int k), some (.ref st.length), some (.ref s1.length), b5, a6, a7, a8, a9, a10, a11] ∧ Pool s st.length ∧ Race s s1.length rs ∧ (∀ y ∈ rs, s1.length < y.1) ∧ (∀ y ∈ rs, (0 ≤ y.2.1 ∧ y.2.1 < 1000 ∧ ∀ x ∈ y.2.2, Pick x) ∧ 0 < y.2.2.length ∧ y.2.2.length ≤ 3) ∧ rs.length + us.length = m)
    .no ((List.range m).map fun (k : Nat) => W.int (0 + (k : Int))) [some (.scr ns), a1, some (.int k), some (.ref st.length), some (.ref s1.length), a5, a6, a7, a8, a9, a10, a11] s3
    ⟨a1, a5, [], rfl, p3, r3, fun y hy => by simp at hy, fun y hy => by simp at hy, by simp⟩ (fun _ _ _ _ => rfl)
    (fun w us r s hP => by
      obtain ⟨b1, b5, rs, k1, k2, k3, k4, k5, k6⟩ := hP
      subst k1
      obtain ⟨s', v, c1, g1, g2, g3, g4, g5, g6, g7⟩ := step1 (n := n + 1) (a0 := some (.scr ns)) (a1 := b1) (a2 := some (.int k)) (a5 := some w) (a6 := a6) (a7 := a7) (a8 := a8) (a9 := a9) (a10 := a10) (a11 := a11) k2 k3 k4 hpq (by omega)
      refine .inl ⟨_, s', g1, c1, some w, rs ++ [v], rfl, g2, g3, fun y hy => ?_, fun y hy => ?_, by simp only [List.length_append, List.length_cons, List.length_nil] at k6 ⊢; omega⟩
      · rcases List.mem_append.mp hy with h | h
        · exact k4 y h
        · rw [List.mem_singleton.mp h]; exact g4
      · rcases List.mem_append.mp hy with h | h
        · exact k5 y h
        · rw [List.mem_singleton.mp h]; exact ⟨g5, g6, g7⟩)
  simp only [List.length_nil, Nat.add_zero] at k6
  subst k1
  have mt : ∀ t ∈ rs.map (·.2), t.2.length ≤ 3 := fun t ht => by
    obtain ⟨y, hy, rfl⟩ := List.mem_map.mp ht
    exact (k5 y hy).2.2
  have tt : tot (rs.map (·.2)) ≤ 48 := by
    have h := tot_le mt
    rw [List.length_map] at h
    omega
  have ok : Okr (rs.map (·.2)) := ⟨fun t ht => by
    obtain ⟨y, hy, rfl⟩ := List.mem_map.mp ht
    exact (k5 y hy).1, by omega⟩
  have rep := repr_race k3 ok
  -- what is due
  obtain ⟨s5, ds, e5, f5, r5, n5, m5⟩ := pt_run (cl := callN tab 0 (n + 1)) (fu := 0) (d := d_law_due) rfl rfl rfl k3 ok
  have okd : Okr (ds.map (·.2)) := by rw [m5]; exact ok.merge
  -- the parted
  have q4 := (List.getElem?_eq_some_iff.mp k3.lst).1
  have k3' := k3.fr f5
  obtain ⟨s6, ps, e6, f6, p6, r6, n6, pa⟩ := parted_run (cl := callN tab 0 (n + 1)) (fu := 0) (d := d_law_parted) rfl rfl rfl (fun ws st => cl2 ws st) (k2.fr f5 fun z => z) (fun y hy => by have := k4 y hy; omega) (by omega) k3' ok (fun y hy => (k5 y hy).2.1)
  have okp : Okr (ps.map (·.2)) := ⟨pa.all, by have := pa.sz; omega⟩
  have q5 := (List.getElem?_eq_some_iff.mp r5.lst).1
  have r6q : Race s6 s1.length rs := k3'.frX f6 (one_of (by omega)) fun y hy => one_of (by have := k4 y hy; omega)
  have r6d : Race s6 s4.length ds := r5.frX f6 (one_of (by omega)) fun y hy => one_of (by have := n5 y hy; omega)
  have f7 : Fr nix s6 (s6 ++ [Cell.lst [.ref s1.length, .ref s5.length, .ref s4.length]]) := Fr.app nix s6 _
  have sz3 : (3 : Nat) ≤ sizeLine := by decide
  obtain ⟨r8, s8, e8, c1, c5, c8, c9, c11, j1, j2, j3⟩ := loopF_to (f := fun w r st => evSs (cN (n + 1)) 0 b_law_4 (r.set 8 (some w)) st)
    (P := fun us r s => ∃ (c1 c5 c8 c9 c11 : Option W), r = [some (.scr ns), c1, some (.int k), some (.ref st.length), some (.ref s1.length), c5, some (.str (PyData.list ((rs.map (·.2)).map tD)).shown), some (.ref s4.length), c8, c9, a10, c11] ∧ Fr nix (s6 ++ [Cell.lst [.ref s1.length, .ref s5.length, .ref s4.length]]) s ∧ ∀ w ∈ us, ∃ (i : Nat) (xs : List Turn), w = .ref i ∧ Race s6 i xs ∧ Okr (xs.map (·.2)) ∧ merge (xs.map (·.2)) = ds.map (·.2))
    (.cell s6.length (.lst [.ref s1.length, .ref s5.length, .ref s4.length])) [.ref s1.length, .ref s5.length, .ref s4.length] [some (.scr ns), b1, some (.int k), some (.ref st.length), some (.ref s1.length), b5, some (.str (PyData.list ((rs.map (·.2)).map tD)).shown), some (.ref s4.length), a8, a9, a10, a11] (s6 ++ [Cell.lst [.ref s1.length, .ref s5.length, .ref s4.length]])
    ⟨b1, b5, a8, a9, a11, rfl, Fr.refl _ _, fun w hw => by
      simp only [List.mem_cons, List.not_mem_nil, or_false] at hw
      rcases hw with rfl | rfl | rfl
      · exact ⟨_, rs, rfl, r6q, ok, m5.symm⟩
      · exact ⟨_, ps, rfl, r6, okp, by rw [pa.mer, m5]⟩
      · exact ⟨_, ds, rfl, r6d, okd, by rw [m5, merge_merge]⟩⟩
    (fun us r s hP => by
      obtain ⟨c1, c5, c8, c9, c11, j1, j2, j3⟩ := hP
      show (match s[s6.length]? with
        | some c' => c'.beq (.lst [.ref s1.length, .ref s5.length, .ref s4.length])
        | none => false) = true
      rw [j2.get (app_get s6 _) fun z => z]
      exact Cell.beq_refl _)
    (fun w us r s hP => by
      obtain ⟨c1, c5, c8, c9, c11, j1, j2, j3⟩ := hP
      obtain ⟨i, xs, rfl, j4, j5, j6⟩ := j3 w (by simp)
      subst j1
      have rg2 : ∀ s : Sto, rangeW 0 2 s = .ok (.no, (List.range 2).map fun (k : Nat) => W.int (0 + (k : Int))) s := fun s => by
        rw [range_w (by omega) (by omega) (by omega) (by omega)]
        rfl
      obtain ⟨r9, s9, e9, d1, d5, d9, d11, i1, i2⟩ := loopF_inv (f := fun w r st => evSs (cN (n + 1)) 0 b_law_3 (r.set 5 (some w)) st)
        (P := fun r s' => ∃ (d1 d5 d9 d11 : Option W), r = [some (.scr ns), d1, some (.int k), some (.ref st.length), some (.ref s1.length), d5, some (.str (PyData.list ((rs.map (·.2)).map tD)).shown), some (.ref s4.length), some (.ref i), d9, a10, d11] ∧ Fr nix s s')
        (ws := (List.range 2).map fun (k : Nat) => W.int (0 + (k : Int))) (r := [some (.scr ns), c1, some (.int k), some (.ref st.length), some (.ref s1.length), c5, some (.str (PyData.list ((rs.map (·.2)).map tD)).shown), some (.ref s4.length), some (.ref i), c9, a10, c11]) (st := s)
        ⟨c1, c5, c9, c11, rfl, Fr.refl _ _⟩ (fun w' _ r s' hP => by
          obtain ⟨d1, d5, d9, d11, i1, i2⟩ := hP
          subst i1
          have f8 := (f7.trans j2).trans i2
          obtain ⟨s'', g1, g9, g11, g, f⟩ := step3 (n := n + 1) (a0 := some (.scr ns)) (a1 := d1) (a2 := some (.int k)) (a3 := some (.ref st.length)) (a4 := some (.ref s1.length)) (a5 := some w') (a6 := some (.str (PyData.list ((rs.map (·.2)).map tD)).shown)) (a9 := d9) (a10 := a10) (a11 := d11) (j4.fr f8) j5 (r6d.fr f8) okd j6
          exact ⟨_, s'', g, g1, some w', g9, g11, rfl, i2.trans f⟩)
      subst i1
      refine .inl ⟨_, s9, ?_, d1, d5, some (.ref i), d9, d11, rfl, j2.trans i2, fun w hw => j3 w (by simp [hw])⟩
      simp -implicitDefEqProofs only [b_law_4, withT_nm, evSs, evS, evE, evEs, evO, evAnds, evOrs, evSr, evIfs, evGs, boolR_bl, boolS_bl, toS_ok, seq_nx, seq_ret, out_ret, out_nx, Rgc_ok, R.bind_ok, List.getElem?_cons_zero, List.getElem?_cons_succ, List.set, if_true, if_false, Bool.false_eq_true, ixW_tup, ixW_ref, setW_ref, binW_add, binW_addL, cmpW_eq, cmpW_ne, eqW_int, bmW_app, biW_listL, srcW_ref, srcW_tup, unset, List.length_cons, List.length_nil, Nat.zero_add, Nat.reduceAdd, rg2]
      rw [e9]
      simp -implicitDefEqProofs only [withT_nm, evSs, evS, evE, evEs, evO, evAnds, evOrs, evSr, evIfs, evGs, boolR_bl, boolS_bl, toS_ok, seq_nx, seq_ret, out_ret, out_nx, Rgc_ok, R.bind_ok, List.getElem?_cons_zero, List.getElem?_cons_succ, List.set, if_true, if_false, Bool.false_eq_true, ixW_tup, ixW_ref, setW_ref, binW_add, binW_addL, cmpW_eq, cmpW_ne, eqW_int, bmW_app, biW_listL, srcW_ref, srcW_tup, unset, List.length_cons, List.length_nil, Nat.zero_add, Nat.reduceAdd])
  subst j1
  have f8 := f7.trans j2
  have rq8 := r6q.fr f8
  have rd8 := r6d.fr f8
  have rep8 := repr_race rq8 ok
  have rep9 := repr_race rd8 okd
  obtain ⟨s10, dd, e10, f10, r10, n10, m10⟩ := pt_run (cl := callN tab 0 (n + 1)) (fu := 0) (d := d_law_due) rfl rfl rfl rq8 ok
  have okd2 : Okr (dd.map (·.2)) := by rw [m10]; exact ok.merge
  have rep10 := repr_race r10 okd2
  rw [m10, ← m5] at rep10
  refine ⟨s10, c1, some (.ref st.length), some (.ref s1.length), c5, some (.str (PyData.list ((rs.map (·.2)).map tD)).shown), some (.ref s4.length), c8, c9, c11, ?_⟩
  rw [b_law_5]
  rw [evSs_cons (r' := [some (.scr ns), a1, some (.int k), some (.ref st.length), a4, a5, a6, a7, a8, a9, a10, a11]) (st' := s1) (by simp -implicitDefEqProofs only [withT_nm, evSs, evS, evE, evEs, evO, evAnds, evOrs, evSr, evIfs, evGs, boolR_bl, boolS_bl, toS_ok, seq_nx, seq_ret, out_ret, out_nx, Rgc_ok, R.bind_ok, List.getElem?_cons_zero, List.getElem?_cons_succ, List.set, if_true, if_false, Bool.false_eq_true, ixW_tup, ixW_ref, setW_ref, binW_add, binW_addL, cmpW_eq, cmpW_ne, eqW_int, bmW_app, biW_listL, srcW_ref, srcW_tup, unset, List.length_cons, List.length_nil, Nat.zero_add, Nat.reduceAdd, cl1, e1])]
  rw [evSs_cons (r' := [some (.scr ns), a1, some (.int k), some (.ref st.length), some (.ref s1.length), a5, a6, a7, a8, a9, a10, a11]) (st' := s1 ++ [.lst []]) (by simp -implicitDefEqProofs only [withT_nm, evSs, evS, evE, evEs, evO, evAnds, evOrs, evSr, evIfs, evGs, boolR_bl, boolS_bl, toS_ok, seq_nx, seq_ret, out_ret, out_nx, Rgc_ok, R.bind_ok, List.getElem?_cons_zero, List.getElem?_cons_succ, List.set, if_true, if_false, Bool.false_eq_true, ixW_tup, ixW_ref, setW_ref, binW_add, binW_addL, cmpW_eq, cmpW_ne, eqW_int, bmW_app, biW_listL, srcW_ref, srcW_tup, unset, List.length_cons, List.length_nil, Nat.zero_add, Nat.reduceAdd, Nat.zero_le])]
  rw [evSs_cons (r' := [some (.scr ns), b1, some (.int k), some (.ref st.length), some (.ref s1.length), b5, a6, a7, a8, a9, a10, a11]) (st' := s4) (by
    simp -implicitDefEqProofs only [withT_nm, evSs, evS, evE, evEs, evO, evAnds, evOrs, evSr, evIfs, evGs, boolR_bl, boolS_bl, toS_ok, seq_nx, seq_ret, out_ret, out_nx, Rgc_ok, R.bind_ok, List.getElem?_cons_zero, List.getElem?_cons_succ, List.set, if_true, if_false, Bool.false_eq_true, ixW_tup, ixW_ref, setW_ref, binW_add, binW_addL, cmpW_eq, cmpW_ne, eqW_int, bmW_app, biW_listL, srcW_ref, srcW_tup, unset, List.length_cons, List.length_nil, Nat.zero_add, Nat.reduceAdd, cl2, e3, rg]
    exact e4)]
  rw [evSs_cons (r' := [some (.scr ns), b1, some (.int k), some (.ref st.length), some (.ref s1.length), b5, some (.str (PyData.list ((rs.map (·.2)).map tD)).shown), a7, a8, a9, a10, a11]) (st' := s4) (by simp -implicitDefEqProofs only [withT_nm, evSs, evS, evE, evEs, evO, evAnds, evOrs, evSr, evIfs, evGs, boolR_bl, boolS_bl, toS_ok, seq_nx, seq_ret, out_ret, out_nx, Rgc_ok, R.bind_ok, List.getElem?_cons_zero, List.getElem?_cons_succ, List.set, if_true, if_false, Bool.false_eq_true, ixW_tup, ixW_ref, setW_ref, binW_add, binW_addL, cmpW_eq, cmpW_ne, eqW_int, bmW_app, biW_listL, srcW_ref, srcW_tup, unset, List.length_cons, List.length_nil, Nat.zero_add, Nat.reduceAdd, rep])]
  rw [evSs_cons (r' := [some (.scr ns), b1, some (.int k), some (.ref st.length), some (.ref s1.length), b5, some (.str (PyData.list ((rs.map (·.2)).map tD)).shown), some (.ref s4.length), a8, a9, a10, a11]) (st' := s5) (by simp -implicitDefEqProofs only [withT_nm, evSs, evS, evE, evEs, evO, evAnds, evOrs, evSr, evIfs, evGs, boolR_bl, boolS_bl, toS_ok, seq_nx, seq_ret, out_ret, out_nx, Rgc_ok, R.bind_ok, List.getElem?_cons_zero, List.getElem?_cons_succ, List.set, if_true, if_false, Bool.false_eq_true, ixW_tup, ixW_ref, setW_ref, binW_add, binW_addL, cmpW_eq, cmpW_ne, eqW_int, bmW_app, biW_listL, srcW_ref, srcW_tup, unset, List.length_cons, List.length_nil, Nat.zero_add, Nat.reduceAdd, cl3, e5])]
  rw [evSs_cons (r' := [some (.scr ns), c1, some (.int k), some (.ref st.length), some (.ref s1.length), c5, some (.str (PyData.list ((rs.map (·.2)).map tD)).shown), some (.ref s4.length), c8, c9, a10, c11]) (st' := s8) (by
    simp -implicitDefEqProofs only [withT_nm, evSs, evS, evE, evEs, evO, evAnds, evOrs, evSr, evIfs, evGs, boolR_bl, boolS_bl, toS_ok, seq_nx, seq_ret, out_ret, out_nx, Rgc_ok, R.bind_ok, List.getElem?_cons_zero, List.getElem?_cons_succ, List.set, if_true, if_false, Bool.false_eq_true, ixW_tup, ixW_ref, setW_ref, binW_add, binW_addL, cmpW_eq, cmpW_ne, eqW_int, bmW_app, biW_listL, srcW_ref, srcW_tup, unset, List.length_cons, List.length_nil, Nat.zero_add, Nat.reduceAdd, cl4, e6, sz3, app_get]
    exact e8)]
  rw [evSs_cons (r' := [some (.scr ns), c1, some (.int k), some (.ref st.length), some (.ref s1.length), c5, some (.str (PyData.list ((rs.map (·.2)).map tD)).shown), some (.ref s4.length), c8, c9, a10, c11]) (st' := s10) (by
    simp -implicitDefEqProofs only [withT_nm, evSs, evS, evE, evEs, evO, evAnds, evOrs, evSr, evIfs, evGs, boolR_bl, boolS_bl, toS_ok, seq_nx, seq_ret, out_ret, out_nx, Rgc_ok, R.bind_ok, List.getElem?_cons_zero, List.getElem?_cons_succ, List.set, if_true, if_false, Bool.false_eq_true, ixW_tup, ixW_ref, setW_ref, binW_add, binW_addL, cmpW_eq, cmpW_ne, eqW_int, bmW_app, biW_listL, srcW_ref, srcW_tup, unset, List.length_cons, List.length_nil, Nat.zero_add, Nat.reduceAdd, cl3, rep8, rep9, rep10, e10, eqW_str, decide_true, Bool.not_true])]
  rw [evSs]
theorem cmp_pt {c e2 : E} {r : Sl} {st1 : Sto} {q : Nat} {rs : List Turn} (hc : evE (cN n) c r st = runD (callN tab 0 n) 0 d_put_together [.ref q] st1) (f1 : Fr nix st st1) (hr : Race st1 q rs) (ok : Okr (rs.map (·.2)))
    (h2 : ∀ s, st.length ≤ s.length → ∃ s2 q2 rs2, evE (cN n) e2 r s = .ok (.ref q2) s2 ∧ Fr nix s s2 ∧ Race s2 q2 rs2 ∧ rs2.map (·.2) = merge (rs.map (·.2))) : evE (cN n) (.gc (.cmp .NotEq c e2)) r st = .ok (.bl false) st := by
  obtain ⟨s3, acc, e1, g1, r1, n1, m1⟩ := pt_run (cl := callN tab 0 n) (fu := 0) (d := d_put_together) rfl rfl rfl hr ok
  obtain ⟨s2, q2, rs2, e3, g2, r2, m2⟩ := h2 s3 (Nat.le_trans f1.1 g1.1)
  have o1 : Okr (acc.map (·.2)) := by rw [m1]; exact ok.merge
  have o2 : Okr (rs2.map (·.2)) := by rw [m2]; exact ok.merge
  have d1 := (r1.fr g2).dat o1
  have d2 := r2.dat o2
  rw [m1] at d1
  rw [m2] at d2
  have eq := eqW_dat d1 d2 (ok.merge.fine).shaped (ok.merge.fine).shaped
  rw [SeqAt.eqv_refl _ (tiny_lay ok.merge.fine.tiny).1] at eq
  simp -implicitDefEqProofs only [withT_nm, evSs, evS, evE, evEs, evO, evAnds, evOrs, evSr, evIfs, evGs, boolR_bl, boolS_bl, toS_ok, seq_nx, seq_ret, out_ret, out_nx, Rgc_ok, R.bind_ok, List.getElem?_cons_zero, List.getElem?_cons_succ, List.set, if_true, if_false, Bool.false_eq_true, ixW_tup, ixW_ref, setW_ref, binW_add, binW_addL, cmpW_eq, cmpW_ne, eqW_int, bmW_app, biW_listL, srcW_ref, srcW_tup, unset, List.length_cons, List.length_nil, Nat.zero_add, Nat.reduceAdd, hc, e1, e3, eq, Bool.not_true]
  exact gc_flat ((f1.trans g1).trans g2) (by simp [W.und])
theorem okr_lit {v : List TV} (h : ∀ t ∈ v, 0 ≤ t.1 ∧ t.1 < 1000 ∧ ∀ w ∈ t.2, Pick w) (k : tot v ≤ 200) : Okr v := ⟨h, k⟩
theorem pick1 : Pick (.int 1) := .inr ⟨1, rfl, by omega, by omega⟩
theorem pick0 : Pick .non := .inl rfl
theorem first3 (ns : List Int) : evSs (cN 8) 0 (b_law.take 3) (some (.scr ns) :: List.replicate 11 none) [] = .nx (some (.scr ns) :: some (.ref 0) :: List.replicate 10 none) [.lst [.int 1]] := by
  have z0 : (0 : Nat) ≤ sizeLine := by decide
  have z1 : (1 : Nat) ≤ sizeLine := by decide
  have z2 : (2 : Nat) ≤ sizeLine := by decide
  have z3 : (3 : Nat) ≤ sizeLine := by decide
  have c1 : ∀ r : Sl, evE (cN 8) (.gc (.cmp .NotEq (.call 0 [(.lst [])]) (.lst []))) r [] = .ok (.bl false) [] := fun r => by
    refine cmp_pt (st1 := [.lst []]) (q := 0) (rs := []) (by simp -implicitDefEqProofs only [withT_nm, evSs, evS, evE, evEs, evO, evAnds, evOrs, evSr, evIfs, evGs, boolR_bl, boolS_bl, toS_ok, seq_nx, seq_ret, out_ret, out_nx, Rgc_ok, R.bind_ok, List.getElem?_cons_zero, List.getElem?_cons_succ, List.set, if_true, if_false, Bool.false_eq_true, ixW_tup, ixW_ref, setW_ref, binW_add, binW_addL, cmpW_eq, cmpW_ne, eqW_int, bmW_app, biW_listL, srcW_ref, srcW_tup, unset, List.length_cons, List.length_nil, Nat.zero_add, Nat.reduceAdd, cl0, z0]; rfl) (Fr.app nix [] _) ⟨rfl, fun y hy => by simp at hy⟩ ⟨fun t ht => by simp at ht, by decide⟩ fun s _ => ?_
    exact ⟨s ++ [.lst []], s.length, [], by simp -implicitDefEqProofs only [withT_nm, evSs, evS, evE, evEs, evO, evAnds, evOrs, evSr, evIfs, evGs, boolR_bl, boolS_bl, toS_ok, seq_nx, seq_ret, out_ret, out_nx, Rgc_ok, R.bind_ok, List.getElem?_cons_zero, List.getElem?_cons_succ, List.set, if_true, if_false, Bool.false_eq_true, ixW_tup, ixW_ref, setW_ref, binW_add, binW_addL, cmpW_eq, cmpW_ne, eqW_int, bmW_app, biW_listL, srcW_ref, srcW_tup, unset, List.length_cons, List.length_nil, Nat.zero_add, Nat.reduceAdd, z0], Fr.app nix s _, ⟨app_get s _, fun y hy => by simp at hy⟩, rfl⟩
  have c2 : ∀ r : Sl, evE (cN 8) (.gc (.cmp .NotEq (.callK 0 [] [(.lst [(.tup [(.int 0), (.lst [.non])]), (.tup [(.int 0), (.lst [(.int 1)])])])] [.k 0]) (.lst [(.tup [(.int 0), (.lst [.non, (.int 1)])])]))) r [] = .ok (.bl false) [] := fun r => by
    refine cmp_pt (st1 := [.lst [.non], .lst [.int 1], .lst [.tup [.int 0, .ref 0], .tup [.int 0, .ref 1]]]) (q := 2) (rs := [(0, (0, [.non])), (1, (0, [.int 1]))]) ?_ (Fr.app nix [] _) ⟨rfl, fun y hy => ?_⟩ ⟨fun t ht => ?_, by decide⟩ fun s _ => ?_
    · simp -implicitDefEqProofs only [withT_nm, evSs, evS, evE, evEs, evO, evAnds, evOrs, evSr, evIfs, evGs, boolR_bl, boolS_bl, toS_ok, seq_nx, seq_ret, out_ret, out_nx, Rgc_ok, R.bind_ok, List.getElem?_cons_zero, List.getElem?_cons_succ, List.set, if_true, if_false, Bool.false_eq_true, ixW_tup, ixW_ref, setW_ref, binW_add, binW_addL, cmpW_eq, cmpW_ne, eqW_int, bmW_app, biW_listL, srcW_ref, srcW_tup, unset, List.length_cons, List.length_nil, Nat.zero_add, Nat.reduceAdd, z0, z1, z2, Pl.all, Pl.get, List.nil_append, List.cons_append, cl0]
    · simp only [List.mem_cons, List.not_mem_nil, or_false] at hy
      rcases hy with rfl | rfl <;> rfl
    · simp only [List.map_cons, List.map_nil, List.mem_cons, List.not_mem_nil, or_false] at ht
      rcases ht with rfl | rfl
      · exact ⟨by decide, by decide, fun w hw => by rw [List.mem_singleton.mp hw]; exact pick0⟩
      · exact ⟨by decide, by decide, fun w hw => by rw [List.mem_singleton.mp hw]; exact pick1⟩
    · refine ⟨s ++ [.lst [.non, .int 1]] ++ [.lst [.tup [.int 0, .ref s.length]]], (s ++ [Cell.lst [.non, .int 1]]).length, [(s.length, (0, [.non, .int 1]))], ?_, (Fr.app nix s _).trans (Fr.app nix _ _), ⟨app_get _ _, fun y hy => ?_⟩, rfl⟩
      · simp -implicitDefEqProofs only [withT_nm, evSs, evS, evE, evEs, evO, evAnds, evOrs, evSr, evIfs, evGs, boolR_bl, boolS_bl, toS_ok, seq_nx, seq_ret, out_ret, out_nx, Rgc_ok, R.bind_ok, List.getElem?_cons_zero, List.getElem?_cons_succ, List.set, if_true, if_false, Bool.false_eq_true, ixW_tup, ixW_ref, setW_ref, binW_add, binW_addL, cmpW_eq, cmpW_ne, eqW_int, bmW_app, biW_listL, srcW_ref, srcW_tup, unset, List.length_cons, List.length_nil, Nat.zero_add, Nat.reduceAdd, z1, z2]
      · obtain rfl := List.mem_singleton.mp hy
        exact (Fr.app nix _ _).get (app_get s _) fun z => z
  have c3 : ∀ r : Sl, r[1]? = some (some (.ref 0)) → evE (cN 8) (.gc (.cmp .NotEq (.call 0 [(.lst [(.tup [(.int 0), (.v 1)]), (.tup [(.int 0), (.v 1)]), (.tup [(.int 2), (.v 1)])])]) (.lst [(.tup [(.int 0), (.lst [(.int 1), (.int 1)])]), (.tup [(.int 2), (.lst [(.int 1)])])]))) r [.lst [.int 1]] = .ok (.bl false) [.lst [.int 1]] := fun r hr => by
    refine cmp_pt (st1 := [.lst [.int 1], .lst [.tup [.int 0, .ref 0], .tup [.int 0, .ref 0], .tup [.int 2, .ref 0]]]) (q := 1) (rs := [(0, (0, [.int 1])), (0, (0, [.int 1])), (0, (2, [.int 1]))]) ?_ (Fr.app nix [.lst [.int 1]] [_]) ⟨rfl, fun y hy => ?_⟩ ⟨fun t ht => ?_, by decide⟩ fun s _ => ?_
    · simp -implicitDefEqProofs only [withT_nm, evSs, evS, evE, evEs, evO, evAnds, evOrs, evSr, evIfs, evGs, boolR_bl, boolS_bl, toS_ok, seq_nx, seq_ret, out_ret, out_nx, Rgc_ok, R.bind_ok, List.getElem?_cons_zero, List.getElem?_cons_succ, List.set, if_true, if_false, Bool.false_eq_true, ixW_tup, ixW_ref, setW_ref, binW_add, binW_addL, cmpW_eq, cmpW_ne, eqW_int, bmW_app, biW_listL, srcW_ref, srcW_tup, unset, List.length_cons, List.length_nil, Nat.zero_add, Nat.reduceAdd, z0, z1, z2, z3, hr, List.nil_append, List.cons_append, cl0]
    · simp only [List.mem_cons, List.not_mem_nil, or_false] at hy
      rcases hy with rfl | rfl | rfl <;> rfl
    · simp only [List.map_cons, List.map_nil, List.mem_cons, List.not_mem_nil, or_false] at ht
      rcases ht with rfl | rfl | rfl <;> exact ⟨by decide, by decide, fun w hw => by rw [List.mem_singleton.mp hw]; exact pick1⟩
    · refine ⟨s ++ [.lst [.int 1, .int 1]] ++ [.lst [.int 1]] ++ [.lst [.tup [.int 0, .ref s.length], .tup [.int 2, .ref (s ++ [Cell.lst [.int 1, .int 1]]).length]]], (s ++ [Cell.lst [.int 1, .int 1]] ++ [Cell.lst [.int 1]]).length, [(s.length, (0, [.int 1, .int 1])), ((s ++ [Cell.lst [.int 1, .int 1]]).length, (2, [.int 1]))], ?_, ((Fr.app nix s _).trans (Fr.app nix _ _)).trans (Fr.app nix _ _), ⟨app_get _ _, fun y hy => ?_⟩, rfl⟩
      · simp -implicitDefEqProofs only [withT_nm, evSs, evS, evE, evEs, evO, evAnds, evOrs, evSr, evIfs, evGs, boolR_bl, boolS_bl, toS_ok, seq_nx, seq_ret, out_ret, out_nx, Rgc_ok, R.bind_ok, List.getElem?_cons_zero, List.getElem?_cons_succ, List.set, if_true, if_false, Bool.false_eq_true, ixW_tup, ixW_ref, setW_ref, binW_add, binW_addL, cmpW_eq, cmpW_ne, eqW_int, bmW_app, biW_listL, srcW_ref, srcW_tup, unset, List.length_cons, List.length_nil, Nat.zero_add, Nat.reduceAdd, z1, z2]
      · simp only [List.mem_cons, List.not_mem_nil, or_false] at hy
        rcases hy with rfl | rfl
        · exact (Fr.app nix _ _).get ((Fr.app nix _ _).get (app_get s _) fun z => z) fun z => z
        · exact (Fr.app nix _ _).get (app_get _ _) fun z => z
  have c4 : ∀ r : Sl, r[1]? = some (some (.ref 0)) → evE (cN 8) (.gc (.cmp .NotEq (.v 1) (.lst [(.int 1)]))) r [.lst [.int 1]] = .ok (.bl false) [.lst [.int 1]] := fun r hr => by
    have d1 : dat [Cell.lst [.int 1], .lst [.int 1]] (.ref 0) = some (.list [.int 1]) := by
      unfold Mi.dat
      rw [W.dat]
      exact look_lst rfl (by simp [W.dats, W.dat])
    have d2 : dat [Cell.lst [.int 1], .lst [.int 1]] (.ref 1) = some (.list [.int 1]) := by
      unfold Mi.dat
      rw [W.dat]
      exact look_lst rfl (by simp [W.dats, W.dat])
    have eq := eqW_dat d1 d2 rfl rfl
    rw [SeqAt.eqv_refl _ rfl] at eq
    simp -implicitDefEqProofs only [withT_nm, evSs, evS, evE, evEs, evO, evAnds, evOrs, evSr, evIfs, evGs, boolR_bl, boolS_bl, toS_ok, seq_nx, seq_ret, out_ret, out_nx, Rgc_ok, R.bind_ok, List.getElem?_cons_zero, List.getElem?_cons_succ, List.set, if_true, if_false, Bool.false_eq_true, ixW_tup, ixW_ref, setW_ref, binW_add, binW_addL, cmpW_eq, cmpW_ne, eqW_int, bmW_app, biW_listL, srcW_ref, srcW_tup, unset, List.length_cons, List.length_nil, Nat.zero_add, Nat.reduceAdd, hr, z1, List.nil_append, List.cons_append, eq, Bool.not_true]
    exact gc_flat (Fr.app nix [.lst [.int 1]] [_]) (by simp [W.und])
  rw [show b_law.take 3 = [.ite (.ors [(.gc (.cmp .NotEq (.call 0 [(.lst [])]) (.lst []))), (.gc (.cmp .NotEq (.callK 0 [] [(.lst [(.tup [(.int 0), (.lst [.non])]), (.tup [(.int 0), (.lst [(.int 1)])])])] [.k 0]) (.lst [(.tup [(.int 0), (.lst [.non, (.int 1)])])])))]) [
    .ret (.bl false)] [],
  .asg (.nm 1) (.lst [(.int 1)]),
  .ite (.ors [(.gc (.cmp .NotEq (.call 0 [(.lst [(.tup [(.int 0), (.v 1)]), (.tup [(.int 0), (.v 1)]), (.tup [(.int 2), (.v 1)])])]) (.lst [(.tup [(.int 0), (.lst [(.int 1), (.int 1)])]), (.tup [(.int 2), (.lst [(.int 1)])])]))), (.gc (.cmp .NotEq (.v 1) (.lst [(.int 1)])))]) [
    .ret (.bl false)] []] from rfl]
  rw [evSs_cons (r' := some (.scr ns) :: List.replicate 11 none) (st' := []) (by
    rw [evS, evE, evOrs, c1]
    simp -implicitDefEqProofs only [boolR_bl, Bool.false_eq_true, if_false, evOrs]
    rw [c2]
    simp -implicitDefEqProofs only [boolS_bl, Bool.false_eq_true, if_false, evSs])]
  rw [evSs_cons (r' := some (.scr ns) :: some (.ref 0) :: List.replicate 10 none) (st' := [.lst [.int 1]]) (by
    simp -implicitDefEqProofs only [withT_nm, evSs, evS, evE, evEs, evO, evAnds, evOrs, evSr, evIfs, evGs, boolR_bl, boolS_bl, toS_ok, seq_nx, seq_ret, out_ret, out_nx, Rgc_ok, R.bind_ok, List.getElem?_cons_zero, List.getElem?_cons_succ, List.set, if_true, if_false, Bool.false_eq_true, ixW_tup, ixW_ref, setW_ref, binW_add, binW_addL, cmpW_eq, cmpW_ne, eqW_int, bmW_app, biW_listL, srcW_ref, srcW_tup, unset, List.length_cons, List.length_nil, Nat.zero_add, Nat.reduceAdd, z1, List.nil_append, List.replicate])]
  rw [evSs_cons (r' := some (.scr ns) :: some (.ref 0) :: List.replicate 10 none) (st' := [.lst [.int 1]]) (by
    rw [evS, evE, evOrs, c3 _ rfl]
    simp -implicitDefEqProofs only [boolR_bl, Bool.false_eq_true, if_false, evOrs]
    rw [c4 _ rfl]
    simp -implicitDefEqProofs only [boolS_bl, Bool.false_eq_true, if_false, evSs])]
  rw [evSs]
end
end Mi.K10

namespace Mi.K10
open PySem
section
variable {n : Nat} {st : Sto}
theorem runs_ok : runs := by
  intro ns hns
  have mx : ∃ j : Nat, j ≤ 20 ∧ (if (if (20 : Int) < (ns.length : Int) then (20 : Int) else (ns.length : Int)) > 1 then (if (20 : Int) < (ns.length : Int) then (20 : Int) else (ns.length : Int)) else 1) = (j : Int) := by
    by_cases h1 : (20 : Int) < (ns.length : Int)
    · exact ⟨20, by omega, by simp [h1]⟩
    · by_cases h2 : (ns.length : Int) > 1
      · exact ⟨ns.length, by omega, by simp [h1, h2]⟩
      · exact ⟨1, by omega, by simp [h1, h2]⟩
  obtain ⟨j, hj, ej⟩ := mx
  obtain ⟨r', s', e, b1, b2, b3, b4, b5, b6, b7, b8, b9, b10, b11, i1⟩ := loopF_inv (f := fun w r st => evSs (cN 8) 0 b_law_5 (r.set 2 (some w)) st)
    (P := fun r _ => ∃ (b1 b2 b3 b4 b5 b6 b7 b8 b9 b10 b11 : Option W), r = [some (.scr ns), b1, b2, b3, b4, b5, b6, b7, b8, b9, b10, b11])
    (ws := (List.range j).map fun (k : Nat) => W.int (0 + (k : Int))) (r := some (.scr ns) :: some (.ref 0) :: List.replicate 10 none) (st := [.lst [.int 1]])
    ⟨_, _, _, _, _, _, _, _, _, _, _, rfl⟩ (fun w hw r s hP => by
      obtain ⟨b1, b2, b3, b4, b5, b6, b7, b8, b9, b10, b11, rfl⟩ := hP
      obtain ⟨k, hk, rfl⟩ := List.mem_map.mp hw
      have hk := List.mem_range.mp hk
      obtain ⟨s', c1, c3, c4, c5, c6, c7, c8, c9, c11, g⟩ := step5 (n := 7) (st := s) (ns := ns) (k := k) (by omega) (a1 := b1) (a3 := b3) (a4 := b4) (a5 := b5) (a6 := b6) (a7 := b7) (a8 := b8) (a9 := b9) (a10 := b10) (a11 := b11)
      rw [Int.zero_add]
      exact ⟨_, s', g, _, _, _, _, _, _, _, _, _, _, _, rfl⟩)
  subst i1
  have rg : ∀ s : Sto, rangeW 0 (j : Int) s = .ok (.no, (List.range j).map fun (k : Nat) => W.int (0 + (k : Int))) s := fun s => by
    have em : ((j : Int) - 0).toNat = j := by omega
    rw [range_w (by omega) (by omega) (by omega) (by omega), em]
  have h1 : (List.map some [W.scr ns] ++ List.replicate (d_law.N.length - [W.scr ns].length) none : Sl) = some (.scr ns) :: List.replicate 11 none := rfl
  have h2 : ([W.scr ns].length = d_law.ps.length) := rfl
  have e0 : callN tab 0 10 5 [.scr ns] [] = (evSs (cN 8) 0 (b_law.take 3 ++ b_law.drop 3) (some (.scr ns) :: List.replicate 11 none) []).out.gc [] := by
    rw [List.take_append_drop, ← h1]
    have h3 : callN tab 0 10 5 [.scr ns] [] = runD (cN 8) 0 d_law [.scr ns] [] := rfl
    rw [h3]
    unfold runD
    rw [if_pos h2]
    have h4 : d_law.body = b_law := rfl
    rw [h4]
  rw [e0, evSs_app, first3]
  refine ⟨[], ?_⟩
  simp -implicitDefEqProofs only [seq_nx]
  rw [show b_law.drop 3 = [.fr (.nm 2) (.rng1 (.bi .max2 [(.int 1), (.bi .min2 [(.bi .len [(.v 0)]), (.int 20)])])) b_law_5, .ret (.bl true)] from rfl]
  simp -implicitDefEqProofs only [withT_nm, evSs, evS, evE, evEs, evO, evAnds, evOrs, evSr, evIfs, evGs, boolR_bl, boolS_bl, toS_ok, seq_nx, seq_ret, out_ret, out_nx, Rgc_ok, R.bind_ok, List.getElem?_cons_zero, List.getElem?_cons_succ, List.set, if_true, if_false, Bool.false_eq_true, ixW_tup, ixW_ref, setW_ref, binW_add, binW_addL, cmpW_eq, cmpW_ne, eqW_int, bmW_app, biW_listL, srcW_ref, srcW_tup, unset, List.length_cons, List.length_nil, Nat.zero_add, Nat.reduceAdd, biW_lenS, biW_min, biW_max, ej, rg]
  rw [e]
  simp -implicitDefEqProofs only [withT_nm, evSs, evS, evE, evEs, evO, evAnds, evOrs, evSr, evIfs, evGs, boolR_bl, boolS_bl, toS_ok, seq_nx, seq_ret, out_ret, out_nx, Rgc_ok, R.bind_ok, List.getElem?_cons_zero, List.getElem?_cons_succ, List.set, if_true, if_false, Bool.false_eq_true, ixW_tup, ixW_ref, setW_ref, binW_add, binW_addL, cmpW_eq, cmpW_ne, eqW_int, bmW_app, biW_listL, srcW_ref, srcW_tup, unset, List.length_cons, List.length_nil, Nat.zero_add, Nat.reduceAdd]
  exact gc_flat (a := []) ⟨Nat.zero_le _, fun i hi => absurd hi (Nat.not_lt_zero _)⟩ (by simp [W.und])
end
theorem law_holds : PySem.Challenge.rw_fewturnsover_k10_turns_put_together.Holds := holds_of runs_ok
end Mi.K10


theorem PySem.Challenge.cw_fewturnsover_k10_turns_put_together_holds : PySem.Challenge.rw_fewturnsover_k10_turns_put_together.Holds := by
  exact Mi.K10.law_holds
