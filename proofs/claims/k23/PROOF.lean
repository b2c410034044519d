import PyProof.Rows.All
import Wide.All
import OpenK.AllK
import Wide.FinOn
import HandS.ForMost
import HandS.ForExc
import HandS.HeadHook4
import HandS.EndBits
import HandS.Wide
import HandS.Flow
import HandS.Conv
import HandS.IsInst
import HandS.TupAny
import HandS.Style
import HandS.HeadEnd
import HandS.WordsExc
import HandS.Head0
import HandS.Head1
import HandS.Head2
import PySem.Challenge.RW_roadqueues_k23_numbers_of_keepers
set_option Elab.async false
set_option linter.all false
set_option maxRecDepth 100000
set_option maxHeartbeats 0
/-! # A small language: trees as values, a store of lists, an evaluator -/
namespace Mi
open PySem (Str)

/-- values. flst: a list that nobody changes any more -/
inductive D where
  | non | bl (b : Bool) | int (i : Int) | str (x : Str)
  | tup (xs : List D) | flst (xs : List D) | loc (n : Nat)
  deriving Inhabited

inductive Cell where
  | lst (xs : List D)
  deriving Inhabited

abbrev Sto := List Cell
abbrev Env := List (Option D)

/-- an expression's end -/
inductive R (α : Type) where
  | ok (a : α) (s : Sto) | ex (c : String) (v : D) (s : Sto) | no

namespace R
def bind {α β : Type} (x : R α) (f : α → Sto → R β) : R β := match x with
  | .ok a s => f a s
  | .ex c v s => .ex c v s
  | .no => .no
@[simp] theorem bind_ok {α β : Type} (a : α) (s : Sto) (f : α → Sto → R β) : (R.ok a s).bind f = f a s := rfl
@[simp] theorem bind_ex {α β : Type} (c : String) (v : D) (s : Sto) (f : α → Sto → R β) : (R.ex c v s : R α).bind f = .ex c v s := rfl
@[simp] theorem bind_no {α β : Type} (f : α → Sto → R β) : (R.no : R α).bind f = .no := rfl
end R

/-- no error may leave -/
def R.nox {α : Type} : R α → R α
  | .ex _ _ _ => .no
  | r => r
@[simp] theorem R.nox_ok {α : Type} (a : α) (s : Sto) : (R.ok a s).nox = .ok a s := rfl
@[simp] theorem R.nox_ex {α : Type} (c : String) (v : D) (s : Sto) : (R.ex c v s : R α).nox = .no := rfl
@[simp] theorem R.nox_no {α : Type} : (R.no : R α).nox = .no := rfl
inductive Fl where | nxt | brk | cnt | ret (d : D)
/-- a statement's end -/
inductive RS where
  | ok (f : Fl) (env : Env) (s : Sto) | ex (c : String) (v : D) (env : Env) (s : Sto) | no

def R.toS {α : Type} (x : R α) (env : Env) (f : α → Sto → RS) : RS := match x with
  | .ok a s => f a s
  | .ex c v s => .ex c v env s
  | .no => .no
@[simp] theorem R.toS_ok {α : Type} (a : α) (s : Sto) (env : Env) (f : α → Sto → RS) : (R.ok a s).toS env f = f a s := rfl
@[simp] theorem R.toS_ex {α : Type} (c : String) (v : D) (s : Sto) (env : Env) (f : α → Sto → RS) : (R.ex c v s : R α).toS env f = .ex c v env s := rfl
@[simp] theorem R.toS_no {α : Type} (env : Env) (f : α → Sto → RS) : (R.no : R α).toS env f = .no := rfl

inductive Op where | add | sub | mul | fdv | mod | pow
  deriving DecidableEq
inductive Cm where | eq | ne | lt | le | gt | ge | isN | notN
  deriving DecidableEq
inductive Ty where | int | bool | str | tuple | list
  deriving DecidableEq
/-- built-ins of values -/
inductive B1 where | int | abs | len | repr | isi (t : Ty)
  deriving DecidableEq
inductive B2 where | min | max
  deriving DecidableEq
/-- built-ins of a sequence -/
inductive Bq where | all | any | sum | tuple | list | max | min
  deriving DecidableEq

inductive Tg where | nm (i : Nat) | tp (is : List Nat)

mutual
inductive E where
  | var (i : Nat) | con (d : D) | glo (d : D)
  | bin (op : Op) (a b : E) | neg (a : E)
  | not (a : E) | and (es : Es) | or (es : Es)
  | cmp (op : Cm) (a b : E) | chn (o1 o2 : Cm) (a b c : E)
  | ite (c a b : E)
  | tup (es : Es) | lst (es : Es)
  | fn (f : Nat) (es : Es) | fnk (f : Nat) (es : Es) (names : List PySem.Str) (perm : List Nat)
  | b1 (f : B1) (a : E) | b2 (f : B2) (a b : E) | bq (f : Bq) (a : E)
  | rng (es : Es) | lrg (es : Es)
  | idx (a b : E) | slc (a lo hi : E)
  | lc (elt : E) (tg : Tg) (it : E) (own : List Nat)
inductive Es where | nil | cons (e : E) (es : Es)
end

mutual
inductive S where
  | asg (tg : Tg) (e : E) | sto (o i e : E) | par (is : List Nat) (es : Es)
  | expr (e : E) | ret (e : E) | pass | brk | cnt
  | iff (c : E) (a b : Ss) | whl (c : E) (b : Ss) | fr (tg : Tg) (it : E) (b : Ss)
  | rais (c : String) (e : E)
inductive Ss where | nil | cons (s : S) (r : Ss)
end

/-! ### values -/
/-- the items of a list, a tuple; is it a tuple -/
def sq (d : D) (s : Sto) : Option (Bool × List D) := match d with
  | .tup xs => some (true, xs)
  | .flst xs => some (false, xs)
  | .loc n => match s[n]? with
    | some (.lst xs) => some (false, xs)
    | none => none
  | _ => none
def sizeMax : Nat := 16777216
def bigOk (i j : Int) : Bool := decide (i.natAbs.log2 + j.natAbs.log2 < 1000000)
def binI (op : Op) (i j : Int) : Option Int := match op with
  | .add => some (i + j)
  | .sub => some (i - j)
  | .mul => if bigOk i j then some (i * j) else none
  | .fdv => if 0 < j ∧ j.natAbs.log2 < 9000 then some (i / j) else none
  | .mod => if 0 < j then some (i % j) else none
  | .pow => if 0 ≤ j ∧ (PySem.Builtin.Int.intBits i : Int) * j ≤ 2 ^ 27 then some (i ^ j.toNat) else none
def binop (op : Op) (x y : D) : Option D := match x, y with
  | .int i, .int j => (binI op i j).map D.int
  | _, _ => none
def scalar : D → Bool
  | .non | .bl _ | .int _ | .str _ => true
  | _ => false
def scEq : D → D → Option Bool
  | .non, .non => some true
  | .bl a, .bl b => some (decide (a = b))
  | .int a, .int b => some (decide (a = b))
  | .str a, .str b => some (decide (a = b))
  | _, _ => none
def cmpI (op : Cm) (i j : Int) : Option Bool := match op with
  | .eq => some (decide (i = j))
  | .ne => some (!decide (i = j))
  | .lt => some (decide (i < j))
  | .le => some (decide (i ≤ j))
  | .gt => some (decide (j < i))
  | .ge => some (decide (j ≤ i))
  | _ => none
def isNon : D → Bool
  | .non => true
  | _ => false
def cmpop (op : Cm) (x y : D) : Option Bool := match op with
  | .isN => if isNon y then some (isNon x) else none
  | .notN => if isNon y then some (!isNon x) else none
  | op => match x, y with
    | .int i, .int j => cmpI op i j
    | .str a, .str b => match op with
      | .eq => some (decide (a = b))
      | .ne => some (!decide (a = b))
      | _ => none
    | _, _ => none
def truth (d : D) (s : Sto) : Option Bool := match d with
  | .bl b => some b
  | .non => some false
  | .int i => some (i != 0)
  | d => (sq d s).map fun q => !q.2.isEmpty
def R.ofO {α : Type} (o : Option α) (s : Sto) : R α := match o with
  | some a => .ok a s
  | none => .no
@[simp] theorem R.ofO_some {α : Type} (a : α) (s : Sto) : R.ofO (some a) s = .ok a s := rfl
@[simp] theorem R.ofO_none {α : Type} (s : Sto) : (R.ofO none s : R α) = .no := rfl
def isTy (t : Ty) (d : D) : Bool := match t, d with
  | .int, .int _ => true
  | .int, .bl _ => true
  | .bool, .bl _ => true
  | .str, .str _ => true
  | .tuple, .tup _ => true
  | .list, .flst _ => true
  | .list, .loc _ => true
  | _, _ => false
def optAll {α : Type} : List (Option α) → Option (List α)
  | [] => some []
  | some a :: r => (optAll r).map (a :: ·)
  | none :: _ => none
/-- a tree as the model's plain data, so deep at most -/
def toPy (s : Sto) : Nat → D → Option PySem.PyData
  | _, .non => some .none
  | _, .bl b => some (.bool b)
  | _, .int i => some (.int i)
  | _, .str x => some (.str x)
  | n + 1, .tup xs => (optAll (xs.map (toPy s n))).map .tuple
  | n + 1, .flst xs => (optAll (xs.map (toPy s n))).map .list
  | n + 1, .loc k => match s[k]? with
    | some (.lst xs) => (optAll (xs.map (toPy s n))).map .list
    | none => none
  | 0, _ => none
def b1 (f : B1) (d : D) (s : Sto) : Option D := match f, d with
  | .int, .int i => some (.int i)
  | .int, .bl b => some (.int (if b then 1 else 0))
  | .abs, .int i => some (.int (if i < 0 then -i else i))
  | .len, d => (sq d s).map fun q => .int q.2.length
  | .repr, d => match toPy s 60 d with
    | some p => if p.showable && decide (p.shown.length ≤ sizeMax) then some (.str p.shown) else none
    | none => none
  | .isi t, d => some (.bl (isTy t d))
  | _, _ => none
def b2 (f : B2) (x y : D) : Option D := match f, x, y with
  | .min, .int i, .int j => some (.int (if j < i then j else i))
  | .max, .int i, .int j => some (.int (if i < j then j else i))
  | _, _, _ => none
def boolsOf : List D → Option (List Bool)
  | [] => some []
  | .bl b :: r => (boolsOf r).map (b :: ·)
  | _ => none
def intsOf : List D → Option (List Int)
  | [] => some []
  | .int b :: r => (intsOf r).map (b :: ·)
  | _ => none
def maxI : List Int → Option Int
  | [] => none
  | x :: r => some (r.foldl (fun a b => if a < b then b else a) x)
def minI : List Int → Option Int
  | [] => none
  | x :: r => some (r.foldl (fun a b => if b < a then b else a) x)
def bq (f : Bq) (t : Bool) (xs : List D) : Option D := match f with
  | .tuple => some (.tup xs)
  | .list => none
  | .all => if t then none else (boolsOf xs).map fun bs => .bl (bs.all id)
  | .any => if t then none else (boolsOf xs).map fun bs => .bl (bs.any id)
  | .sum => if t then none else (intsOf xs).map fun ns => .int ns.sum
  | .max => if t then none else (intsOf xs).bind fun ns => (maxI ns).map D.int
  | .min => if t then none else (intsOf xs).bind fun ns => (minI ns).map D.int
/-- x[i] -/
def item (xs : List D) (i : Int) : Option D := L2.atI xs i
/-- the parts of a slice -/
def slice (xs : List D) (lo hi : Option Int) : List D := (xs.drop (HT.sIx xs.length 0 lo)).take (HT.sIx xs.length xs.length hi - HT.sIx xs.length 0 lo)
def rangeOf : List D → Option (List D)
  | [.int n] => if n < 2 ^ 62 ∧ -(2 ^ 62) ≤ n then some ((List.range n.toNat).map fun (k : Nat) => D.int (k : Int)) else none
  | [.int a, .int n] => if n < 2 ^ 62 ∧ -(2 ^ 62) ≤ n ∧ a < 2 ^ 62 ∧ -(2 ^ 62) ≤ a then some ((List.range (n - a).toNat).map fun (k : Nat) => D.int (a + (k : Int))) else none
  | _ => none

/-- names of a comprehension forgotten -/
def wipe (env : Env) : List Nat → Env
  | [] => env
  | i :: r => (wipe env r).set i none
def setAll (env : Env) : List Nat → List D → Option Env
  | [], [] => some env
  | i :: is, d :: ds => setAll (env.set i (some d)) is ds
  | _, _ => none
def bindTg (tg : Tg) (d : D) (env : Env) : Option Env := match tg with
  | .nm i => some (env.set i (some d))
  | .tp is => match d with
    | .tup ds => setAll env is ds
    | _ => none

/-- a loop's source: fixed items, or the list at a place, looked at turn by turn -/
inductive Src where | fix (xs : List D) | at_ (n : Nat) (len : Nat)

def mapR {β : Type} (f : D → Sto → R β) : List D → Sto → R (List β)
  | [], s => .ok [] s
  | d :: r, s => (f d s).bind fun x s1 => (mapR f r s1).bind fun xs s2 => .ok (x :: xs) s2
/-- the item of a turn; is it the end; how many turns -/
def srcGet (src : Src) (i : Nat) (s : Sto) : Option D := match src with
  | .fix xs => xs[i]?
  | .at_ n _ => match s[n]? with
    | some (.lst xs) => xs[i]?
    | none => none
def srcEnd (src : Src) (i : Nat) (s : Sto) : Bool := match src with
  | .fix xs => decide (xs.length ≤ i)
  | .at_ n _ => match s[n]? with
    | some (.lst xs) => decide (xs.length ≤ i)
    | none => false
def srcLen : Src → Nat
  | .fix xs => xs.length
  | .at_ _ k => k
def mapG {β : Type} (f : D → Sto → R β) (src : Src) : Nat → Nat → Sto → R (List β)
  | 0, i, s => if srcEnd src i s = true then .ok [] s else .no
  | k + 1, i, s => match srcGet src i s with
    | some d => (f d s).bind fun x s1 => (mapG f src k (i + 1) s1).bind fun xs s2 => .ok (x :: xs) s2
    | none => .no
def mapSrc {β : Type} (f : D → Sto → R β) (src : Src) (s : Sto) : R (List β) := mapG f src (srcLen src) 0 s
theorem mapG_fix {β : Type} (f : D → Sto → R β) (xs : List D) : ∀ (k i : Nat) (s : Sto), k + i = xs.length → mapG f (.fix xs) k i s = mapR f (xs.drop i) s
  | 0, i, s, h => by
    rw [List.drop_of_length_le (by omega)]
    simp [mapG, mapR, srcEnd, (show xs.length ≤ i by omega)]
  | k + 1, i, s, h => by
    have hi : i < xs.length := by omega
    rw [List.drop_eq_getElem_cons hi]
    simp only [mapG, mapR, srcGet, List.getElem?_eq_getElem hi]
    congr 1
    funext x s1
    rw [mapG_fix f xs k (i + 1) s1 (by omega)]
@[simp] theorem mapSrc_fix {β : Type} (f : D → Sto → R β) (xs : List D) (s : Sto) : mapSrc f (.fix xs) s = mapR f xs s := by
  unfold mapSrc
  rw [mapG_fix f xs _ 0 s (by simp [srcLen])]
  rfl

/-- a loop's turns -/
def turns (f : D → Env → Sto → RS) : List D → Env → Sto → RS
  | [], env, s => .ok .nxt env s
  | d :: r, env, s => match f d env s with
    | .ok .nxt env' s' => turns f r env' s'
    | .ok .cnt env' s' => turns f r env' s'
    | .ok .brk env' s' => .ok .nxt env' s'
    | .ok (.ret v) env' s' => .ok (.ret v) env' s'
    | .ex c v env' s' => .ex c v env' s'
    | .no => .no
def turnsG (f : D → Env → Sto → RS) (src : Src) : Nat → Nat → Env → Sto → RS
  | 0, i, env, s => if srcEnd src i s = true then .ok .nxt env s else .no
  | k + 1, i, env, s => match srcGet src i s with
    | some d => match f d env s with
      | .ok .nxt env' s' => turnsG f src k (i + 1) env' s'
      | .ok .cnt env' s' => turnsG f src k (i + 1) env' s'
      | .ok .brk env' s' => .ok .nxt env' s'
      | .ok (.ret v) env' s' => .ok (.ret v) env' s'
      | .ex c v env' s' => .ex c v env' s'
      | .no => .no
    | none => .no
def turnsSrc (f : D → Env → Sto → RS) (src : Src) (env : Env) (s : Sto) : RS := turnsG f src (srcLen src) 0 env s
theorem turnsG_fix (f : D → Env → Sto → RS) (xs : List D) : ∀ (k i : Nat) (env : Env) (s : Sto), k + i = xs.length → turnsG f (.fix xs) k i env s = turns f (xs.drop i) env s
  | 0, i, env, s, h => by
    rw [List.drop_of_length_le (by omega)]
    simp [turnsG, turns, srcEnd, (show xs.length ≤ i by omega)]
  | k + 1, i, env, s, h => by
    have hi : i < xs.length := by omega
    rw [List.drop_eq_getElem_cons hi]
    simp only [turnsG, turns, srcGet, List.getElem?_eq_getElem hi]
    cases f xs[i] env s with
    | no => rfl
    | ex _ _ _ _ => rfl
    | ok fl env' s' => cases fl <;> simp only [turnsG_fix f xs k (i + 1) _ _ (by omega)]
@[simp] theorem turnsSrc_fix (f : D → Env → Sto → RS) (xs : List D) (env : Env) (s : Sto) : turnsSrc f (.fix xs) env s = turns f xs env s := by
  unfold turnsSrc
  rw [turnsG_fix f xs _ 0 env s (by simp [srcLen])]
  rfl
/-- while, at most so many turns -/
def whlN (c : Env → Sto → R Bool) (b : Env → Sto → RS) : Nat → Env → Sto → RS
  | 0, _, _ => .no
  | n + 1, env, s => match c env s with
    | .ok true s1 => match b env s1 with
      | .ok .nxt env' s' => whlN c b n env' s'
      | .ok .cnt env' s' => whlN c b n env' s'
      | .ok .brk env' s' => .ok .nxt env' s'
      | .ok (.ret v) env' s' => .ok (.ret v) env' s'
      | .ex c v env' s' => .ex c v env' s'
      | .no => .no
    | .ok false s1 => .ok .nxt env s1
    | .ex c v s' => .ex c v env s'
    | .no => .no
open Classical in
noncomputable def whl (c : Env → Sto → R Bool) (b : Env → Sto → RS) (env : Env) (s : Sto) : RS :=
  if h : ∃ n, whlN c b n env s ≠ .no then whlN c b h.choose env s else .no
theorem whlN_mono {c : Env → Sto → R Bool} {b : Env → Sto → RS} : ∀ {n m : Nat} {env : Env} {s : Sto}, whlN c b n env s ≠ .no → n ≤ m → whlN c b m env s = whlN c b n env s
  | 0, _, _, _, h, _ => absurd rfl h
  | n + 1, 0, _, _, _, hm => absurd hm (by omega)
  | n + 1, m + 1, env, s, h, hm => by
    unfold whlN at h ⊢
    cases hc : c env s with
    | no => rfl
    | ex _ _ _ => rfl
    | ok t s1 =>
      cases t with
      | false => rfl
      | true =>
        simp only [hc] at h ⊢
        cases hb : b env s1 with
        | no => rfl
        | ex _ _ _ _ => rfl
        | ok f env' s' =>
          cases f with
          | nxt => simp only [hb] at h ⊢; exact whlN_mono h (by omega)
          | cnt => simp only [hb] at h ⊢; exact whlN_mono h (by omega)
          | brk => rfl
          | ret _ => rfl
theorem whl_of {c : Env → Sto → R Bool} {b : Env → Sto → RS} {n : Nat} {env : Env} {s : Sto} {r : RS} (h : whlN c b n env s = r) (hr : r ≠ .no) : whl c b env s = r := by
  have hx : ∃ n, whlN c b n env s ≠ .no := ⟨n, by rw [h]; exact hr⟩
  unfold whl
  rw [dif_pos hx]
  have h2 := hx.choose_spec
  rcases Nat.le_total n hx.choose with l | l
  · rw [whlN_mono (by rw [h]; exact hr) l, h]
  · rw [← whlN_mono h2 l, h]
theorem whl_fuel {c : Env → Sto → R Bool} {b : Env → Sto → RS} {env : Env} {s : Sto} (h : whl c b env s ≠ .no) : ∃ n, whlN c b n env s = whl c b env s := by
  unfold whl at h ⊢
  split
  · rename_i hx; exact ⟨_, rfl⟩
  · rename_i hx; rw [dif_neg hx] at h; exact absurd rfl h
/-- one turn -/
theorem whl_eq (c : Env → Sto → R Bool) (b : Env → Sto → RS) (env : Env) (s : Sto) : whl c b env s = (match c env s with
    | .ok true s1 => match b env s1 with
      | .ok .nxt env' s' => whl c b env' s'
      | .ok .cnt env' s' => whl c b env' s'
      | .ok .brk env' s' => .ok .nxt env' s'
      | .ok (.ret v) env' s' => .ok (.ret v) env' s'
      | .ex c v env' s' => .ex c v env' s'
      | .no => .no
    | .ok false s1 => .ok .nxt env s1
    | .ex c v s' => .ex c v env s'
    | .no => .no) := by
  have zero : ∀ {e s' r}, whl c b e s' = r → r ≠ .no → ∃ n, whlN c b n e s' = r := fun h1 h2 => by
    obtain ⟨n, e⟩ := whl_fuel (by rw [h1]; exact h2)
    exact ⟨n, e.trans h1⟩
  have none_of : ∀ {e s'}, (∀ n, whlN c b n e s' = .no) → whl c b e s' = .no := fun h => by
    unfold whl
    rw [dif_neg fun ⟨n, hn⟩ => hn (h n)]
  cases hc : c env s with
  | no => exact none_of fun n => by cases n <;> simp [whlN, hc]
  | ex c' v s' => exact whl_of (n := 1) (by simp [whlN, hc]) (fun z => nomatch z)
  | ok t s1 =>
    cases t with
    | false => exact whl_of (n := 1) (by simp [whlN, hc]) (fun z => nomatch z)
    | true =>
      dsimp only
      cases hb : b env s1 with
      | no => exact none_of fun n => by cases n <;> simp [whlN, hc, hb]
      | ex c' v e' s' => exact whl_of (n := 1) (by simp [whlN, hc, hb]) (fun z => nomatch z)
      | ok f env' s' =>
        have again : (∀ n, whlN c b (n + 1) env s = whlN c b n env' s') → whl c b env s = whl c b env' s' := fun hn => by
          by_cases z : whl c b env' s' = .no
          · rw [z]
            refine none_of fun n => ?_
            cases n with
            | zero => rfl
            | succ n =>
              rw [hn]
              cases q : whlN c b n env' s' with
              | no => rfl
              | ok _ _ _ => rw [whl_of q (fun z => nomatch z)] at z; cases z
              | ex _ _ _ _ => rw [whl_of q (fun z => nomatch z)] at z; cases z
          · obtain ⟨n, e⟩ := whl_fuel z
            exact whl_of (n := n + 1) ((hn n).trans e) z
        cases f with
        | brk => exact whl_of (n := 1) (by simp [whlN, hc, hb]) (fun z => nomatch z)
        | ret v => exact whl_of (n := 1) (by simp [whlN, hc, hb]) (fun z => nomatch z)
        | nxt => exact again fun n => by simp [whlN, hc, hb]
        | cnt => exact again fun n => by simp [whlN, hc, hb]

def isNonE : E → Bool
  | .con .non => true
  | _ => false
/-- a part of a slice: left out, or an int -/
def part (e : E) (d : D) : Option (Option Int) := match d with
  | .int i => if isNonE e = true then none else some (some i)
  | .non => if isNonE e = true then some none else none
  | _ => none
/-- what functions do -/
abbrev Orc := Nat → List D → Sto → R D
/-- what an expression gives: a value; a new list, not laid yet; a range -/
inductive P where | val (d : D) | new (xs : List D) | rg (xs : List D)
def lay (p : P) (s : Sto) : R D := match p with
  | .val d => .ok d s
  | .new xs => .ok (.loc s.length) (s ++ [.lst xs])
  | .rg _ => .no
def R.bindv {β : Type} (r : R P) (f : D → Sto → R β) : R β := (r.bind lay).bind f
def sqP (p : P) (s : Sto) : Option (Bool × List D) := match p with
  | .val d => sq d s
  | .new xs => some (false, xs)
  | .rg _ => none
def R.bindq {β : Type} (r : R P) (f : Bool × List D → Sto → R β) : R β := r.bind fun p s => (R.ofO (sqP p s) s).bind f
def srcP (p : P) (s : Sto) : Option Src := match p with
  | .val (.tup xs) => some (.fix xs)
  | .val (.flst xs) => some (.fix xs)
  | .val (.loc n) => match s[n]? with
    | some (.lst xs) => some (.at_ n xs.length)
    | none => none
  | .val _ => none
  | .new xs => some (.fix xs)
  | .rg xs => some (.fix xs)
@[simp] theorem R.bindv_val {β : Type} (d : D) (s : Sto) (f : D → Sto → R β) : (R.ok (P.val d) s).bindv f = f d s := rfl
@[simp] theorem R.bindv_ex {β : Type} (c : String) (v : D) (s : Sto) (f : D → Sto → R β) : (R.ex c v s : R P).bindv f = .ex c v s := rfl
@[simp] theorem R.bindv_no {β : Type} (f : D → Sto → R β) : (R.no : R P).bindv f = .no := rfl
@[simp] theorem R.bindq_ok {β : Type} (p : P) (s : Sto) (f : Bool × List D → Sto → R β) : (R.ok p s).bindq f = (R.ofO (sqP p s) s).bind f := rfl
@[simp] theorem R.bindq_ex {β : Type} (c : String) (v : D) (s : Sto) (f : Bool × List D → Sto → R β) : (R.ex c v s : R P).bindq f = .ex c v s := rfl
@[simp] theorem R.bindq_no {β : Type} (f : Bool × List D → Sto → R β) : (R.no : R P).bindq f = .no := rfl
def okv (d : D) (s : Sto) : R P := .ok (.val d) s
@[simp] theorem okv_eq (d : D) (s : Sto) : okv d s = .ok (.val d) s := rfl
def ofOv (o : Option D) (s : Sto) : R P := match o with
  | some d => .ok (.val d) s
  | none => .no
@[simp] theorem ofOv_some (d : D) (s : Sto) : ofOv (some d) s = .ok (.val d) s := rfl
@[simp] theorem ofOv_none (s : Sto) : ofOv none s = .no := rfl
/-- a turn of a comprehension: its names are bound -/
def turnC (tg : Tg) (own : List Nat) (env : Env) (f : Env → Sto → R P) (d : D) (s : Sto) : R D := match bindTg tg d (wipe env own) with
  | some env' => ((f env' s).bind lay).nox
  | none => .no
def turnF (tg : Tg) (f : Env → Sto → RS) (d : D) (env : Env) (s : Sto) : RS := match bindTg tg d env with
  | some env' => f env' s
  | none => .no
/-- these of a list, in that order -/
def permOf {α : Type} (ds : List α) : List Nat → Option (List α)
  | [] => some []
  | i :: r => match ds[i]?, permOf ds r with
    | some d, some l => some (d :: l)
    | _, _ => none
mutual
/-- the same tree -/
def D.same : D → D → Bool
  | .non, .non => true
  | .bl a, .bl b => decide (a = b)
  | .int a, .int b => decide (a = b)
  | .str a, .str b => decide (a = b)
  | .tup a, .tup b => D.sameL a b
  | .flst a, .flst b => D.sameL a b
  | _, _ => false
def D.sameL : List D → List D → Bool
  | [], [] => true
  | a :: r, b :: t => a.same b && D.sameL r t
  | _, _ => false
end
mutual
theorem D.same_eq : ∀ {a b : D}, a.same b = true → a = b
  | .non, b, h => by cases b <;> first | rfl | (unfold D.same at h; cases h)
  | .bl x, b, h => by
    cases b <;> first | (unfold D.same at h; cases h; done) | skip
    unfold D.same at h
    rw [of_decide_eq_true h]
  | .int x, b, h => by
    cases b <;> first | (unfold D.same at h; cases h; done) | skip
    unfold D.same at h
    rw [of_decide_eq_true h]
  | .str x, b, h => by
    cases b <;> first | (unfold D.same at h; cases h; done) | skip
    unfold D.same at h
    rw [of_decide_eq_true h]
  | .tup x, b, h => by
    cases b <;> first | (unfold D.same at h; cases h; done) | skip
    unfold D.same at h
    rw [D.sameL_eq h]
  | .flst x, b, h => by
    cases b <;> first | (unfold D.same at h; cases h; done) | skip
    unfold D.same at h
    rw [D.sameL_eq h]
  | .loc x, b, h => by cases b <;> (unfold D.same at h; cases h)
theorem D.sameL_eq : ∀ {a b : List D}, D.sameL a b = true → a = b
  | [], [], _ => rfl
  | [], _ :: _, h => by unfold D.sameL at h; cases h
  | _ :: _, [], h => by unfold D.sameL at h; cases h
  | a :: r, b :: t, h => by
    unfold D.sameL at h
    rw [Bool.and_eq_true] at h
    rw [D.same_eq h.1, D.sameL_eq h.2]
end
mutual
def ev (o : Orc) : E → Env → Sto → R P
  | .var i, env, s => match env[i]? with
    | some (some d) => okv d s
    | _ => .no
  | .con d, _, s => okv d s
  | .glo d, _, s => okv d s
  | .bin op a b, env, s => (ev o a env s).bindv fun x s1 => (ev o b env s1).bindv fun y s2 => ofOv (binop op x y) s2
  | .neg a, env, s => (ev o a env s).bindv fun x s1 => match x with
    | .int i => okv (.int (-i)) s1
    | _ => .no
  | .not a, env, s => (ev o a env s).bindv fun x s1 => (R.ofO (truth x s1) s1).bind fun b s2 => okv (.bl (!b)) s2
  | .and es, env, s => evAnd o es env s
  | .or es, env, s => evOr o es env s
  | .cmp op a b, env, s => (ev o a env s).bindv fun x s1 => (ev o b env s1).bindv fun y s2 => (R.ofO (cmpop op x y) s2).bind fun b s3 => okv (.bl b) s3
  | .chn o1 o2 a b c, env, s => (ev o a env s).bindv fun x s1 => (ev o b env s1).bindv fun y s2 => match cmpop o1 x y with
    | some true => (ev o c env s2).bindv fun z s3 => (R.ofO (cmpop o2 y z) s3).bind fun b s4 => okv (.bl b) s4
    | some false => okv (.bl false) s2
    | none => .no
  | .ite c a b, env, s => (ev o c env s).bindv fun x s1 => match truth x s1 with
    | some true => ev o a env s1
    | some false => ev o b env s1
    | none => .no
  | .tup es, env, s => (evs o es env s).bind fun ds s1 => if ds.length ≤ sizeMax then okv (.tup ds) s1 else .no
  | .lst es, env, s => (evs o es env s).bind fun ds s1 => if ds.length ≤ sizeMax then .ok (.new ds) s1 else .no
  | .fn f es, env, s => (evs o es env s).bind fun ds s1 => (o f ds s1).bind fun d s2 => okv d s2
  | .fnk f es _ p, env, s => (evs o es env s).bind fun ds s1 => (R.ofO (permOf ds p) s1).bind fun ds s2 => (o f ds s2).bind fun d s3 => okv d s3
  | .b1 f a, env, s => (ev o a env s).bindv fun x s1 => ofOv (b1 f x s1) s1
  | .b2 f a b, env, s => (ev o a env s).bindv fun x s1 => (ev o b env s1).bindv fun y s2 => ofOv (b2 f x y) s2
  | .bq f a, env, s => (ev o a env s).bindq fun q s1 => match f with
    | .list => .ok (.new q.2) s1
    | f => ofOv (bq f q.1 q.2) s1
  | .rng es, env, s => (evs o es env s).bind fun ds s1 => (R.ofO (rangeOf ds) s1).bind fun xs s2 => .ok (.rg xs) s2
  | .lrg es, env, s => (evs o es env s).bind fun ds s1 => (R.ofO (rangeOf ds) s1).bind fun xs s2 => if xs.length ≤ sizeMax then .ok (.new xs) s2 else .no
  | .idx a b, env, s => (ev o a env s).bindv fun x s1 => (ev o b env s1).bindv fun y s2 => match sq x s2, y with
    | some q, .int i => ofOv (item q.2 i) s2
    | _, _ => .no
  | .slc a lo hi, env, s => (ev o a env s).bindv fun x s1 => ((ev o lo env s1).bindv fun d s2 => R.ofO (part lo d) s2).bind fun l s2 => ((ev o hi env s2).bindv fun d s3 => R.ofO (part hi d) s3).bind fun h s3 => match sq x s3 with
    | some q => if q.1 = true then okv (.tup (slice q.2 l h)) s3 else .ok (.new (slice q.2 l h)) s3
    | none => .no
  | .lc elt tg it own, env, s => (ev o it env s).bind fun p s1 => (R.ofO (srcP p s1) s1).bind fun src s2 =>
      (mapSrc (turnC tg own env fun env' s => ev o elt env' s) src s2).bind fun ds s3 => if ds.length ≤ sizeMax then .ok (.new ds) s3 else .no
def evAnd (o : Orc) : Es → Env → Sto → R P
  | .nil, _, _ => .no
  | .cons e r, env, s => match r with
    | .nil => ev o e env s
    | .cons _ _ => (ev o e env s).bindv fun x s1 => match truth x s1 with
      | some true => evAnd o r env s1
      | some false => okv x s1
      | none => .no
def evOr (o : Orc) : Es → Env → Sto → R P
  | .nil, _, _ => .no
  | .cons e r, env, s => match r with
    | .nil => ev o e env s
    | .cons _ _ => (ev o e env s).bindv fun x s1 => match truth x s1 with
      | some false => evOr o r env s1
      | some true => okv x s1
      | none => .no
def evs (o : Orc) : Es → Env → Sto → R (List D)
  | .nil, _, s => .ok [] s
  | .cons e r, env, s => (ev o e env s).bindv fun d s1 => (evs o r env s1).bind fun ds s2 => .ok (d :: ds) s2
end
def Es.len : Es → Nat
  | .nil => 0
  | .cons _ r => r.len + 1
theorem evs_len (o : Orc) : ∀ (es : Es) (env : Env) (s : Sto) (ds : List D) (s' : Sto), evs o es env s = .ok ds s' → ds.length = es.len
  | .nil, env, s, ds, s', h => by simp only [evs, R.ok.injEq] at h; rw [← h.1]; rfl
  | .cons e r, env, s, ds, s', h => by
    simp only [evs, R.bindv] at h
    cases q : (ev o e env s).bind lay with
    | no => rw [q] at h; cases h
    | ex _ _ _ => rw [q] at h; cases h
    | ok d s1 =>
      rw [q] at h
      simp only [R.bind_ok] at h
      cases q2 : evs o r env s1 with
      | no => rw [q2] at h; cases h
      | ex _ _ _ => rw [q2] at h; cases h
      | ok l s2 =>
        rw [q2] at h
        simp only [R.bind_ok, R.ok.injEq] at h
        rw [← h.1, List.length_cons, evs_len o r env s1 l s2 q2]
        rfl
/-- an expression's value, its truth -/
def evv (o : Orc) (e : E) (env : Env) (s : Sto) : R D := (ev o e env s).bind lay
def tst (o : Orc) (e : E) (env : Env) (s : Sto) : R Bool := (ev o e env s).bindv fun d s1 => R.ofO (truth d s1) s1
def evi (o : Orc) (e : E) (env : Env) (s : Sto) : R Src := (ev o e env s).bind fun p s1 => R.ofO (srcP p s1) s1

theorem tst_not (o : Orc) (a : E) (env : Env) (s : Sto) : tst o (.not a) env s = (tst o a env s).bind fun b s1 => .ok (!b) s1 := by
  unfold tst
  rw [ev]
  unfold R.bindv
  cases (ev o a env s).bind lay with
  | no => rfl
  | ex c d s' => rfl
  | ok d s' =>
    simp only [R.bind_ok]
    cases truth d s' <;> rfl
theorem tst_and (o : Orc) (a b : E) (r : Es) (env : Env) (s : Sto) : tst o (.and (.cons a (.cons b r))) env s = (tst o a env s).bind fun c s1 => if c = true then tst o (.and (.cons b r)) env s1 else .ok false s1 := by
  unfold tst
  simp only [ev]
  rw [evAnd]
  unfold R.bindv
  cases (ev o a env s).bind lay with
  | no => rfl
  | ex c d s' => rfl
  | ok d s' =>
    simp only [R.bind_ok]
    cases h : truth d s' with
    | none => rfl
    | some q => cases q <;> simp [h, lay]
theorem tst_and1 (o : Orc) (a : E) (env : Env) (s : Sto) : tst o (.and (.cons a .nil)) env s = tst o a env s := by
  unfold tst
  simp only [ev]
  rw [evAnd]
theorem tst_or (o : Orc) (a b : E) (r : Es) (env : Env) (s : Sto) : tst o (.or (.cons a (.cons b r))) env s = (tst o a env s).bind fun c s1 => if c = true then .ok true s1 else tst o (.or (.cons b r)) env s1 := by
  unfold tst
  simp only [ev]
  rw [evOr]
  unfold R.bindv
  cases (ev o a env s).bind lay with
  | no => rfl
  | ex c d s' => rfl
  | ok d s' =>
    simp only [R.bind_ok]
    cases h : truth d s' with
    | none => rfl
    | some q => cases q <;> simp [h, lay]
theorem tst_or1 (o : Orc) (a : E) (env : Env) (s : Sto) : tst o (.or (.cons a .nil)) env s = tst o a env s := by
  unfold tst
  simp only [ev]
  rw [evOr]

mutual
noncomputable def evS (o : Orc) : S → Env → Sto → RS
  | .asg tg e, env, s => (evv o e env s).toS env fun d s1 => match bindTg tg d env with
    | some env' => .ok .nxt env' s1
    | none => .no
  | .sto a i e, env, s => (evv o e env s).toS env fun d s1 => (evv o a env s1).toS env fun x s2 => (evv o i env s2).toS env fun y s3 => match x, y with
    | .loc n, .int k => match s3[n]? with
      | some (.lst xs) => if 0 ≤ k ∧ k.toNat < xs.length then .ok .nxt env (s3.set n (.lst (xs.set k.toNat d))) else .no
      | none => .no
    | _, _ => .no
  | .par is es, env, s => (evs o es env s).toS env fun ds s1 => match setAll env is ds with
    | some env' => .ok .nxt env' s1
    | none => .no
  | .expr e, env, s => (evv o e env s).toS env fun _ s1 => .ok .nxt env s1
  | .ret e, env, s => (evv o e env s).toS env fun d s1 => .ok (.ret d) env s1
  | .pass, env, s => .ok .nxt env s
  | .brk, env, s => .ok .brk env s
  | .cnt, env, s => .ok .cnt env s
  | .iff c a b, env, s => (tst o c env s).toS env fun t s1 => if t = true then evSs o a env s1 else evSs o b env s1
  | .whl c b, env, s => whl (fun env s => tst o c env s) (fun env s => evSs o b env s) env s
  | .fr tg it b, env, s => (evi o it env s).toS env fun src s1 => turnsSrc (turnF tg fun env s => evSs o b env s) src env s1
  | .rais _ _, _, _ => .no
noncomputable def evSs (o : Orc) : Ss → Env → Sto → RS
  | .nil, env, s => .ok .nxt env s
  | .cons st r, env, s => match evS o st env s with
    | .ok .nxt env' s' => evSs o r env' s'
    | x => x
end

/-! ### functions -/
mutual
def D.und (n : Nat) : D → Bool
  | .loc k => decide (k < n)
  | .tup xs => D.undL n xs
  | .flst xs => D.undL n xs
  | _ => true
def D.undL (n : Nat) : List D → Bool
  | [] => true
  | d :: r => d.und n && D.undL n r
end
def Cell.und (n : Nat) : Cell → Bool
  | .lst xs => D.undL n xs
/-- a function: how many parameters, how many names in all, its body; what becomes of the lists that it made: fz: what it hands back is changed no more -/
structure FDef where
  ps : Nat
  names : Nat
  body : Ss
/-- what stood ahead of a call does not know what was made in it -/
def KeepsOld (s s' : Sto) : Prop := ∀ i, i < s.length → s'[i]? = s[i]? ∨ ∃ c, s'[i]? = some c ∧ c.und s.length = true
/-- a new list that is handed back, as a tree -/
def freeze (n : Nat) (d : D) (s : Sto) : D := match d with
  | .loc k => if k < n then d else match s[k]? with
    | some (.lst xs) => .flst xs
    | none => d
  | _ => d
open Classical in
/-- behind a call: what it made is forgotten, if nothing else holds it -/
noncomputable def sweep (s : Sto) (r : R D) : R D := match r with
  | .ok d s' => if (freeze s.length d s').und s.length = true ∧ s.length ≤ s'.length ∧ KeepsOld s s' then .ok (freeze s.length d s') (s'.take s.length) else .ok d s'
  | r => r
noncomputable def runF (o : Orc) (fd : FDef) (ds : List D) (s : Sto) : R D :=
  match evSs o fd.body (ds.map some ++ List.replicate (fd.names - ds.length) none) s with
  | .ok (.ret d) _ s' => .ok d s'
  | .ok .nxt _ s' => .ok .non s'
  | .ex c v _ s' => .ex c v s'
  | _ => .no
/-- the functions, to a depth. keep f: what f hands back may be changed further -/
noncomputable def callN (F : Nat → Option FDef) (keep : Nat → Bool) : Nat → Orc
  | 0, _, _, _ => .no
  | n + 1, f, ds, s => match F f with
    | some fd => if ds.length = fd.ps then (if keep f = true then runF (callN F keep n) fd ds s else sweep s (runF (callN F keep n) fd ds s)) else .no
    | none => .no
end Mi

/-! # What a tree, a store stand for in the abstract heap -/
namespace Mi
open PySem L2
/-- what is set aside: (true, a): a list that is read as a frozen one; (false, a): a thing that is only left alone -/
abbrev Fz := List (Bool × Addr)
section
variable (K : PySem.W.Frag) (φ : Fz) (μ : List Addr) (H : Hp)
abbrev none0 : Hp := fun _ => none
/-- a list that stays as it is: tracked and set aside, locked, or a thing of the text -/
def FzL (a : Addr) (vs : List V) : Prop := ((true, a) ∈ φ ∧ H a = some (.lst vs)) ∨ (∃ o, H a = some (.frz o (.lst vs))) ∨ SqL K none0 a vs
mutual
def RelD : D → V → Prop
  | .non, v => v = .non
  | .bl b, v => v = .bl b
  | .int i, v => v = .int i
  | .str x, v => v = .str x
  | .tup ds, v => ∃ a vs, v = .ref a ∧ SqT K H a vs ∧ RelL ds vs
  | .flst ds, v => ∃ a vs, v = .ref a ∧ FzL K φ H a vs ∧ RelL ds vs
  | .loc n, v => ∃ a, v = .ref a ∧ μ[n]? = some a
def RelL : List D → List V → Prop
  | [], vs => vs = []
  | d :: ds, vs => ∃ v r, vs = v :: r ∧ RelD d v ∧ RelL ds r
end
def RelC : Cell → Addr → Prop
  | .lst ds, a => ∃ vs, H a = some (.lst vs) ∧ RelL K φ μ H ds vs
/-- the store: φ what is set aside, μ where its places stand -/
structure RelS (s : Sto) : Prop where
  nd : μ.Nodup
  len : μ.length = s.length
  cell : ∀ (n : Nat) (c : Cell) (a : Addr), s[n]? = some c → μ[n]? = some a → RelC K φ μ H c a
  apart : ∀ p ∈ φ, p.2 ∉ μ
  here : ∀ p ∈ φ, H p.2 ≠ none
  one : ∀ a, (false, a) ∈ φ → (true, a) ∉ φ
structure RelE (env : Env) (σ : St) : Prop where
  len : env.length = σ.length
  at_ : ∀ (i : Nat) (d : D), env[i]? = some (some d) → ∃ v, σ[i]? = some (some v) ∧ RelD K φ μ H d v
end
/-- later: more is set aside, more places, what was read stays -/
structure Le (K : PySem.W.Frag) (φ : Fz) (μ : List Addr) (H : Hp) (φ' : Fz) (μ' : List Addr) (H' : Hp) : Prop where
  fz : ∀ p ∈ φ, p ∈ φ'
  pl : μ <+: μ'
  tup : ∀ a vs, SqT K H a vs → SqT K H' a vs
  frz : ∀ a o u, H a = some (.frz o u) → H' a = some (.frz o u)
  set : ∀ p ∈ φ, H' p.2 = H p.2
theorem Le.refl {K : PySem.W.Frag} {φ : Fz} {μ : List Addr} {H : Hp} : Le K φ μ H φ μ H := ⟨fun _ h => h, List.prefix_refl _, fun _ _ h => h, fun _ _ _ h => h, fun _ _ => rfl⟩
theorem Le.trans {K : PySem.W.Frag} {φ φ1 φ2 : Fz} {μ μ1 μ2 : List Addr} {H H1 H2 : Hp} (a : Le K φ μ H φ1 μ1 H1) (b : Le K φ1 μ1 H1 φ2 μ2 H2) : Le K φ μ H φ2 μ2 H2 :=
  ⟨fun x h => b.fz x (a.fz x h), a.pl.trans b.pl, fun x vs h => b.tup x vs (a.tup x vs h), fun x o u h => b.frz x o u (a.frz x o u h), fun x h => (b.set x (a.fz x h)).trans (a.set x h)⟩
theorem get_pre {α : Type} {l l' : List α} (h : l <+: l') {i : Nat} {x : α} (e : l[i]? = some x) : l'[i]? = some x := by
  obtain ⟨r, rfl⟩ := h
  rw [List.getElem?_append_left (List.getElem?_eq_some_iff.mp e).1]
  exact e
section
variable {K : PySem.W.Frag} {φ φ' : Fz} {μ μ' : List Addr} {H H' : Hp}
theorem FzL.up (l : Le K φ μ H φ' μ' H') {a : Addr} {vs : List V} (h : FzL K φ H a vs) : FzL K φ' H' a vs := by
  rcases h with ⟨h1, h2⟩ | ⟨o, h1⟩ | h1
  · exact .inl ⟨l.fz _ h1, (l.set _ h1).trans h2⟩
  · exact .inr (.inl ⟨o, l.frz a _ _ h1⟩)
  · exact .inr (.inr h1)
theorem FzL.sq {a : Addr} {vs : List V} (h : FzL K φ H a vs) : SqL K H a vs := by
  rcases h with ⟨_, h2⟩ | ⟨o, h1⟩ | h1
  · exact .inl (.inl h2)
  · exact .inl (.inr ⟨o, h1⟩)
  · rcases h1 with (h1 | ⟨o, h1⟩) | h1
    · cases h1
    · cases h1
    · exact .inr h1
mutual
theorem RelD.up (l : Le K φ μ H φ' μ' H') : ∀ {d : D} {v : V}, RelD K φ μ H d v → RelD K φ' μ' H' d v
  | .non, _, h => by unfold RelD at h ⊢; exact h
  | .bl _, _, h => by unfold RelD at h ⊢; exact h
  | .int _, _, h => by unfold RelD at h ⊢; exact h
  | .str _, _, h => by unfold RelD at h ⊢; exact h
  | .tup ds, _, h => by
    unfold RelD at h ⊢
    obtain ⟨a, vs, e, h1, h2⟩ := h
    exact ⟨a, vs, e, l.tup a vs h1, RelL.up l h2⟩
  | .flst ds, _, h => by
    unfold RelD at h ⊢
    obtain ⟨a, vs, e, h1, h2⟩ := h
    exact ⟨a, vs, e, h1.up l, RelL.up l h2⟩
  | .loc n, _, h => by
    unfold RelD at h ⊢
    obtain ⟨a, e, h1⟩ := h
    exact ⟨a, e, get_pre l.pl h1⟩
theorem RelL.up (l : Le K φ μ H φ' μ' H') : ∀ {ds : List D} {vs : List V}, RelL K φ μ H ds vs → RelL K φ' μ' H' ds vs
  | [], _, h => by unfold RelL at h ⊢; exact h
  | d :: ds, _, h => by
    unfold RelL at h ⊢
    obtain ⟨v, r, e, h1, h2⟩ := h
    exact ⟨v, r, e, RelD.up l h1, RelL.up l h2⟩
end
theorem RelE.up (l : Le K φ μ H φ' μ' H') {env : Env} {σ : St} (h : RelE K φ μ H env σ) : RelE K φ' μ' H' env σ :=
  ⟨h.len, fun i d e => let ⟨v, h1, h2⟩ := h.at_ i d e; ⟨v, h1, h2.up l⟩⟩
theorem RelL.nil : RelL K φ μ H [] [] := by unfold RelL; rfl
theorem RelL.cons {d : D} {v : V} {ds : List D} {vs : List V} (h : RelD K φ μ H d v) (r : RelL K φ μ H ds vs) : RelL K φ μ H (d :: ds) (v :: vs) := by
  conv => unfold RelL
  exact ⟨v, vs, rfl, h, r⟩
theorem RelL.of_cons {d : D} {ds : List D} {vs : List V} (h : RelL K φ μ H (d :: ds) vs) : ∃ v r, vs = v :: r ∧ RelD K φ μ H d v ∧ RelL K φ μ H ds r := by
  unfold RelL at h
  exact h
theorem RelL.of_nil {vs : List V} (h : RelL K φ μ H [] vs) : vs = [] := by
  unfold RelL at h
  exact h
theorem RelL.length : ∀ {ds : List D} {vs : List V}, RelL K φ μ H ds vs → ds.length = vs.length
  | [], _, h => by rw [h.of_nil]; rfl
  | d :: ds, _, h => by
    obtain ⟨v, r, rfl, _, h2⟩ := h.of_cons
    rw [List.length_cons, List.length_cons, h2.length]
theorem RelL.get : ∀ {ds : List D} {vs : List V} {i : Nat} {d : D}, RelL K φ μ H ds vs → ds[i]? = some d → ∃ v, vs[i]? = some v ∧ RelD K φ μ H d v
  | [], _, _, _, _, e => by simp at e
  | x :: ds, _, 0, d, h, e => by
    obtain ⟨v, r, rfl, h1, _⟩ := h.of_cons
    have e' : x = d := by simpa using e
    subst e'
    exact ⟨v, rfl, h1⟩
  | x :: ds, _, i + 1, d, h, e => by
    obtain ⟨v, r, rfl, _, h2⟩ := h.of_cons
    have e' : ds[i]? = some d := by simpa using e
    obtain ⟨u, e1, e2⟩ := RelL.get h2 e'
    exact ⟨u, by simpa using e1, e2⟩
theorem RelL.set {d : D} {v : V} (hd : RelD K φ μ H d v) : ∀ {ds : List D} {vs : List V} (i : Nat), RelL K φ μ H ds vs → RelL K φ μ H (ds.set i d) (vs.set i v)
  | [], _, i, h => by rw [h.of_nil]; exact .nil
  | x :: ds, _, 0, h => by
    obtain ⟨u, r, rfl, _, h2⟩ := h.of_cons
    exact .cons hd h2
  | x :: ds, _, i + 1, h => by
    obtain ⟨u, r, rfl, h1, h2⟩ := h.of_cons
    exact .cons h1 (RelL.set hd i h2)
theorem RelL.append : ∀ {ds es : List D} {vs us : List V}, RelL K φ μ H ds vs → RelL K φ μ H es us → RelL K φ μ H (ds ++ es) (vs ++ us)
  | [], _, _, _, h, g => by rw [h.of_nil]; exact g
  | x :: ds, _, _, _, h, g => by
    obtain ⟨u, r, rfl, h1, h2⟩ := h.of_cons
    exact .cons h1 (RelL.append h2 g)
theorem RelL.drop : ∀ {ds : List D} {vs : List V} (n : Nat), RelL K φ μ H ds vs → RelL K φ μ H (ds.drop n) (vs.drop n)
  | _, _, 0, h => h
  | [], _, n + 1, h => by rw [h.of_nil]; exact .nil
  | x :: ds, _, n + 1, h => by
    obtain ⟨u, r, rfl, h1, h2⟩ := h.of_cons
    exact RelL.drop n h2
theorem RelL.take : ∀ {ds : List D} {vs : List V} (n : Nat), RelL K φ μ H ds vs → RelL K φ μ H (ds.take n) (vs.take n)
  | _, _, 0, h => .nil
  | [], _, n + 1, h => by rw [h.of_nil]; exact .nil
  | x :: ds, _, n + 1, h => by
    obtain ⟨u, r, rfl, h1, h2⟩ := h.of_cons
    exact .cons h1 (RelL.take n h2)
theorem RelS.at_ {s : Sto} (h : RelS K φ μ H s) {n : Nat} {c : Cell} (e : s[n]? = some c) : ∃ a, μ[n]? = some a ∧ RelC K φ μ H c a := by
  have hl : n < μ.length := by rw [h.len]; exact (List.getElem?_eq_some_iff.mp e).1
  exact ⟨μ[n], List.getElem?_eq_getElem hl, h.cell n c _ e (List.getElem?_eq_getElem hl)⟩
theorem RelC.here {c : Cell} {a : Addr} (h : RelC K φ μ H c a) : H a ≠ none := by
  cases c with
  | lst ds =>
    obtain ⟨vs, e, _⟩ := h
    rw [e]
    intro z
    cases z
theorem RelS.here_mu {s : Sto} (h : RelS K φ μ H s) {a : Addr} (ha : a ∈ μ) : H a ≠ none := by
  obtain ⟨n, hn, e⟩ := List.mem_iff_getElem.mp ha
  have hs : n < s.length := by rw [← h.len]; exact hn
  have e2 : μ[n]? = some a := by rw [List.getElem?_eq_getElem hn, e]
  exact (h.cell n s[n] a (List.getElem?_eq_getElem hs) e2).here
/-- tuples and locked things stand where an object that is none of them is put -/
theorem sqt_upd {a b : Addr} {o : HO} {vs : List V} (hn : ∀ o' xs, H b = some o' → o' ≠ .tup xs) (hf : ∀ o' x xs, H b = some o' → o' ≠ .frz x (.tup xs)) (h : SqT K H a vs) : SqT K (upd H b o) a vs := by
  rcases h with (h | ⟨x, h⟩) | h
  · have : a ≠ b := by rintro rfl; exact hn _ _ h rfl
    exact .inl (.inl (by rw [upd_ne this]; exact h))
  · have : a ≠ b := by rintro rfl; exact hf _ _ _ h rfl
    exact .inl (.inr ⟨x, by rw [upd_ne this]; exact h⟩)
  · exact .inr h
/-- a new object beside -/
theorem Le.new {p : Addr} {o : HO} (hp : H p = none) (hφ : ∀ p ∈ φ, H p.2 ≠ none) : Le K φ μ H φ μ (upd H p o) :=
  ⟨fun _ h => h, List.prefix_refl _, fun a vs h => sqt_upd (fun o' xs e => by rw [hp] at e; cases e) (fun o' x xs e => by rw [hp] at e; cases e) h,
    fun a x u h => by
      have : a ≠ p := by rintro rfl; rw [hp] at h; cases h
      rw [upd_ne this]; exact h,
    fun q hq => by
      have : q.2 ≠ p := by rintro rfl; exact hφ _ hq hp
      rw [upd_ne this]⟩
theorem Le.grow {p : Addr} : Le K φ μ H φ (μ ++ [p]) H := ⟨fun _ h => h, List.prefix_append .., fun _ _ h => h, fun _ _ _ h => h, fun _ _ => rfl⟩
theorem RelC.up_but {c : Cell} {a : Addr} (l : Le K φ μ H φ' μ' H') (e : H' a = H a) (h : RelC K φ μ H c a) : RelC K φ' μ' H' c a := by
  cases c with
  | lst ds =>
    obtain ⟨vs, e1, h1⟩ := h
    exact ⟨vs, e.trans e1, h1.up l⟩
/-- the store where a new object stands beside that the store does not know -/
theorem RelS.beside {s : Sto} {p : Addr} {o : HO} (h : RelS K φ μ H s) (hp : H p = none) : RelS K φ μ (upd H p o) s := by
  refine ⟨h.nd, h.len, fun n c a e1 e2 => ?_, h.apart, fun q hq => ?_, h.one⟩
  · have ne : a ≠ p := by rintro rfl; exact (h.cell n c _ e1 e2).here hp
    exact (h.cell n c a e1 e2).up_but (Le.new hp h.here) (by rw [upd_ne ne])
  · have ne : q.2 ≠ p := by rintro rfl; exact h.here _ hq hp
    rw [upd_ne ne]; exact h.here q hq
/-- a new place -/
theorem RelS.laid {s : Sto} {p : Addr} {o : HO} {c : Cell} (h : RelS K φ μ H s) (hp : H p = none) (hc : RelC K φ μ (upd H p o) c p) : RelS K φ (μ ++ [p]) (upd H p o) (s ++ [c]) := by
  have hb := h.beside (o := o) hp
  have pm : p ∉ μ := fun z => h.here_mu z hp
  refine ⟨?_, by rw [List.length_append, List.length_append, h.len]; rfl, fun n c' a e1 e2 => ?_, fun a ha => ?_, hb.here, h.one⟩
  · rw [List.nodup_append]
    exact ⟨h.nd, by simp, fun a ha b hb e => pm (by simp at hb; subst hb; subst e; exact ha)⟩
  · by_cases hn : n < s.length
    · rw [List.getElem?_append_left hn] at e1
      rw [List.getElem?_append_left (by rw [h.len]; exact hn)] at e2
      exact (hb.cell n c' a e1 e2).up_but Le.grow rfl
    · rw [List.getElem?_append_right (by omega)] at e1
      rw [List.getElem?_append_right (by rw [h.len]; omega), h.len] at e2
      have hn0 : n - s.length = 0 := by
        have := (List.getElem?_eq_some_iff.mp e1).1
        simp at this
        omega
      rw [hn0] at e1 e2
      have e1' : c = c' := by simpa using e1
      have e2' : p = a := by simpa using e2
      subst e1' e2'
      exact hc.up_but Le.grow rfl
  · intro z
    rcases List.mem_append.mp z with z | z
    · exact h.apart a ha z
    · have : a.2 = p := by simpa using z
      subst this
      exact h.here _ ha hp
/-- a place is written -/
theorem Le.write {s : Sto} {n : Nat} {a : Addr} {o u : HO} (h : RelS K φ μ H s) (e : μ[n]? = some a) (hu : H a = some u) (h1 : ∀ xs, u ≠ .tup xs) (h2 : ∀ x y, u ≠ .frz x y) : Le K φ μ H φ μ (upd H a o) :=
  ⟨fun _ h => h, List.prefix_refl _, fun b vs q => sqt_upd (fun o' xs z => by rw [hu] at z; cases z; exact h1 xs) (fun o' x xs z => by rw [hu] at z; cases z; exact h2 _ _) q,
    fun b x y q => by
      have : b ≠ a := by rintro rfl; rw [hu] at q; cases q; exact h2 _ _ rfl
      rw [upd_ne this]; exact q,
    fun b hb => by
      have : b.2 ≠ a := by rintro rfl; exact h.apart _ hb (List.mem_of_getElem? e)
      rw [upd_ne this]⟩
theorem RelS.write {s : Sto} {n : Nat} {a : Addr} {o u : HO} {c : Cell} (h : RelS K φ μ H s) (e : μ[n]? = some a) (hu : H a = some u) (h1 : ∀ xs, u ≠ .tup xs) (h2 : ∀ x y, u ≠ .frz x y) (hc : RelC K φ μ (upd H a o) c a) : RelS K φ μ (upd H a o) (s.set n c) := by
  have l : Le K φ μ H φ μ (upd H a o) := Le.write h e hu h1 h2
  refine ⟨h.nd, by rw [List.length_set]; exact h.len, fun m c' b e1 e2 => ?_, h.apart, fun b hb => ?_, h.one⟩
  · by_cases hm : n = m
    · subst hm
      rw [e] at e2; cases e2
      have hn : n < s.length := by rw [← h.len]; exact (List.getElem?_eq_some_iff.mp e).1
      rw [List.getElem?_set_self hn] at e1
      cases e1
      exact hc
    · rw [List.getElem?_set_ne hm] at e1
      have ne : b ≠ a := by
        rintro rfl
        obtain ⟨l1, x1⟩ := List.getElem?_eq_some_iff.mp e
        obtain ⟨l2, x2⟩ := List.getElem?_eq_some_iff.mp e2
        exact hm ((List.getElem_inj h.nd).mp (x1.trans x2.symm))
      exact (h.cell m c' b e1 e2).up_but l (by rw [upd_ne ne])
  · by_cases hb2 : b.2 = a
    · rw [hb2, upd_same]; intro z; cases z
    · rw [upd_ne hb2]; exact h.here b hb
/-! names -/
theorem RelE.set {env : Env} {σ : St} {i : Nat} {d : D} {v : V} (h : RelE K φ μ H env σ) (hd : RelD K φ μ H d v) : RelE K φ μ H (env.set i (some d)) (σ.set i (some v)) := by
  refine ⟨by rw [List.length_set, List.length_set]; exact h.len, fun j x e => ?_⟩
  by_cases hj : i = j
  · subst hj
    have hi : i < env.length := by
      have := (List.getElem?_eq_some_iff.mp e).1
      simpa using this
    rw [List.getElem?_set_self hi] at e
    cases e
    exact ⟨v, List.getElem?_set_self (by rw [← h.len]; exact hi), hd⟩
  · rw [List.getElem?_set_ne hj] at e
    rw [List.getElem?_set_ne hj]
    exact h.at_ j x e
theorem RelE.unset {env : Env} {σ : St} {i : Nat} {o : Option V} (h : RelE K φ μ H env σ) : RelE K φ μ H (env.set i none) (σ.set i o) := by
  refine ⟨by rw [List.length_set, List.length_set]; exact h.len, fun j x e => ?_⟩
  by_cases hj : i = j
  · subst hj
    have hi : i < env.length := by
      have := (List.getElem?_eq_some_iff.mp e).1
      simpa using this
    rw [List.getElem?_set_self hi] at e
    cases e
  · rw [List.getElem?_set_ne hj] at e
    rw [List.getElem?_set_ne hj]
    exact h.at_ j x e
end
end Mi

/-! # Readings by the evaluator -/
namespace Mi
open PySem L2
/-- a class by its name -/
abbrev XcT := String → Value
section
variable (K : PySem.W.Frag) (xc : XcT)
/-- a raised error -/
def RelX (φ : Fz) (μ : List Addr) (H : Hp) (c : String) (d : D) (cls : Value) (dx : Option Addr) : Prop :=
  cls = xc c ∧ ∃ a v, dx = some a ∧ H a = some (.xd [(("value" : Str), v)]) ∧ RelD K φ μ H d v
abbrev Rl (α β : Type) := Fz → List Addr → Hp → α → β → Prop
/-- what is wanted of an expression's end -/
def Fin {α β : Type} (W : WX) (rel : Rl α β) (φ : Fz) (μ : List Addr) (H : Hp) (σ : St) (r : R α) (Q : β → Hp → Prop) : Prop := match r with
  | .ok a s' => ∀ φ' μ' H' b, Le K φ μ H φ' μ' H' → RelS K φ' μ' H' s' → rel φ' μ' H' a b → Q b H'
  | .ex c d s' => ∀ φ' μ' H' cls dx, Le K φ μ H φ' μ' H' → RelS K φ' μ' H' s' → RelX K xc φ' μ' H' c d cls dx → W cls dx σ H'
  | .no => False
/-- .. of a statement's -/
def FinS (W : WX) (φ : Fz) (μ : List Addr) (H : Hp) (r : RS) (D : Ends) : Prop := match r with
  | .ok f env' s' => ∀ φ' μ' H' σ', Le K φ μ H φ' μ' H' → RelS K φ' μ' H' s' → RelE K φ' μ' H' env' σ' → (match f with
    | .nxt => D.nx σ' H'
    | .brk => D.bk σ' H'
    | .cnt => D.ct σ' H'
    | .ret d => ∀ v, RelD K φ' μ' H' d v → D.rt v H')
  | .ex c d env' s' => ∀ φ' μ' H' σ' cls dx, Le K φ μ H φ' μ' H' → RelS K φ' μ' H' s' → RelE K φ' μ' H' env' σ' → RelX K xc φ' μ' H' c d cls dx → W cls dx σ' H'
  | .no => False
end
section
variable {K : PySem.W.Frag} {xc : XcT} {W : WX} {α β γ δ : Type} {φ φ1 : Fz} {μ μ1 : List Addr} {H H1 : Hp} {σ : St}
theorem Fin.up {rel : Rl α β} {r : R α} {Q : β → Hp → Prop} (l : Le K φ μ H φ1 μ1 H1) (h : Fin K xc W rel φ μ H σ r Q) : Fin K xc W rel φ1 μ1 H1 σ r Q := by
  cases r with
  | ok a s' => exact fun φ' μ' H' b l' => h φ' μ' H' b (l.trans l')
  | ex c d s' => exact fun φ' μ' H' cls dx l' => h φ' μ' H' cls dx (l.trans l')
  | no => exact h
theorem FinS.up {r : RS} {D : Ends} (l : Le K φ μ H φ1 μ1 H1) (h : FinS K xc W φ μ H r D) : FinS K xc W φ1 μ1 H1 r D := by
  cases r with
  | ok a e s' => exact fun φ' μ' H' b l' => h φ' μ' H' b (l.trans l')
  | ex c d e s' => exact fun φ' μ' H' σ' cls dx l' => h φ' μ' H' σ' cls dx (l.trans l')
  | no => exact h
/-- first this, then that -/
theorem Fin.bind {rel1 : Rl α β} {rel2 : Rl γ δ} {r : R α} {f : α → Sto → R γ} {Q : δ → Hp → Prop} {Q1 : β → Hp → Prop} (h : Fin K xc W rel2 φ μ H σ (r.bind f) Q)
    (k : ∀ a s' φ' μ' H' b, Le K φ μ H φ' μ' H' → RelS K φ' μ' H' s' → rel1 φ' μ' H' a b → Fin K xc W rel2 φ' μ' H' σ (f a s') Q → Q1 b H') : Fin K xc W rel1 φ μ H σ r Q1 := by
  cases r with
  | ok a s' => exact fun φ' μ' H' b l rs rl => k a s' φ' μ' H' b l rs rl (Fin.up l h)
  | ex c d s' => exact h
  | no => exact h
theorem FinS.bind {rel1 : Rl α β} {r : R α} {f : α → Sto → RS} {env : Env} {D : Ends} {Q1 : β → Hp → Prop} (re : RelE K φ μ H env σ) (h : FinS K xc W φ μ H (r.toS env f) D)
    (k : ∀ a s' φ' μ' H' b, Le K φ μ H φ' μ' H' → RelS K φ' μ' H' s' → rel1 φ' μ' H' a b → FinS K xc W φ' μ' H' (f a s') D → Q1 b H') : Fin K xc W rel1 φ μ H σ r Q1 := by
  cases r with
  | ok a s' => exact fun φ' μ' H' b l rs rl => k a s' φ' μ' H' b l rs rl (FinS.up l h)
  | ex c d s' => exact fun φ' μ' H' cls dx l rs rx => h φ' μ' H' σ cls dx l rs (re.up l) rx
  | no => exact h
/-- at the end -/
theorem Fin.here {rel : Rl α β} {a : α} {s : Sto} {Q : β → Hp → Prop} {b : β} (h : Fin K xc W rel φ μ H σ (.ok a s) Q) (rs : RelS K φ μ H s) (rl : rel φ μ H a b) : Q b H := h φ μ H b Le.refl rs rl
theorem Fin.ofO {rel : Rl α β} {o : Option α} {s : Sto} {Q : β → Hp → Prop} (h : Fin K xc W rel φ μ H σ (R.ofO o s) Q) : ∃ a, o = some a ∧ Fin K xc W rel φ μ H σ (.ok a s) Q := by
  cases o with
  | some a => exact ⟨a, rfl, h⟩
  | none => exact h.elim
end
/-! the readings -/
section
variable (K : PySem.W.Frag) (xc : XcT) (o : Orc) (W : WX)
def relB : Rl Bool Bool := fun _ _ _ a b => a = b
def SqA (t : Bool) (H : Hp) (a : Addr) (vs : List V) : Prop := if t = true then SqT K H a vs else SqL K H a vs
/-- a sequence that is only read -/
def relQ : Rl (Bool × List D) V := fun φ μ H q v => ∃ a vs, v = .ref a ∧ SqA K q.1 H a vs ∧ RelL K φ μ H q.2 vs
/-- a new list that the store does not know -/
def relN : Rl (List D) V := fun φ μ H xs v => ∃ a vs, v = .ref a ∧ H a = some (.lst vs) ∧ (∀ b, (b, a) ∉ φ) ∧ a ∉ μ ∧ RelL K φ μ H xs vs
def relP : Rl P V := fun φ μ H p v => match p with
  | .val d => RelD K φ μ H d v
  | .new xs => relN K φ μ H xs v
  | .rg _ => False
def rdP (e : E) : TE := fun σ H Q => ∃ φ μ env s, RelS K φ μ H s ∧ RelE K φ μ H env σ ∧ Fin K xc W (relP K) φ μ H σ (ev o e env s) Q
def rdE (e : E) : TE := fun σ H Q => ∃ φ μ env s, RelS K φ μ H s ∧ RelE K φ μ H env σ ∧ Fin K xc W (RelD K) φ μ H σ (evv o e env s) Q
def rdQ (e : E) : TE := fun σ H Q => ∃ φ μ env s, RelS K φ μ H s ∧ RelE K φ μ H env σ ∧ Fin K xc W (relQ K) φ μ H σ ((ev o e env s).bindq fun q s1 => .ok q s1) Q
def rdT (e : E) : TT := fun σ H Q => ∃ φ μ env s, RelS K φ μ H s ∧ RelE K φ μ H env σ ∧ Fin K xc W relB φ μ H σ (tst o e env s) Q
def rdA (es : Es) : TA := fun σ H Q => ∃ φ μ env s, RelS K φ μ H s ∧ RelE K φ μ H env σ ∧ Fin K xc W (RelL K) φ μ H σ (evs o es env s) Q
def rdS (st : S) : TS := fun D σ H => ∃ φ μ env s, RelS K φ μ H s ∧ RelE K φ μ H env σ ∧ FinS K xc W φ μ H (evS o st env s) D
def rdSs (st : Ss) : TS := fun D σ H => ∃ φ μ env s, RelS K φ μ H s ∧ RelE K φ μ H env σ ∧ FinS K xc W φ μ H (evSs o st env s) D
end
theorem PE.imp {X : Cx} {e : Expr} {t t' : TE} (h : PE X e t) (i : ∀ σ H Q, t' σ H Q → t σ H Q) : PE X e t' := ⟨fun pins s σ H Q I q => h.run pins s σ H Q I (i σ H Q q)⟩
theorem PT.imp {X : Cx} {e : Expr} {t t' : TT} (h : PT X e t) (i : ∀ σ H Q, t' σ H Q → t σ H Q) : PT X e t' := ⟨fun pins s σ H Q I q => h.run pins s σ H Q I (i σ H Q q)⟩
theorem PA.imp {X : Cx} {e : List Expr} {t t' : TA} (h : PA X e t) (i : ∀ σ H Q, t' σ H Q → t σ H Q) : PA X e t' := ⟨fun pos pins s σ H Q I q => h.run pos pins s σ H Q I (i σ H Q q)⟩
theorem PS.imp {X : Cx} {e : Stmt} {t t' : TS} (h : PS X e t) (i : ∀ D σ H, t' D σ H → t D σ H) : PS X e t' := ⟨fun pins s σ H D I q => h.run pins s σ H D I (i D σ H q)⟩
theorem PSs.imp {X : Cx} {e : List Stmt} {t t' : TS} (h : PSs X e t) (i : ∀ D σ H, t' D σ H → t D σ H) : PSs X e t' := ⟨fun pins s σ H D I q => h.run pins s σ H D I (i D σ H q)⟩
/-! ### values, one by one -/
section
variable {K : PySem.W.Frag} {φ : Fz} {μ : List Addr} {H : Hp} {v : V}
theorem relD_int {i : Int} (h : RelD K φ μ H (.int i) v) : v = .int i := by unfold RelD at h; exact h
theorem relD_bl {i : Bool} (h : RelD K φ μ H (.bl i) v) : v = .bl i := by unfold RelD at h; exact h
theorem relD_str {i : Str} (h : RelD K φ μ H (.str i) v) : v = .str i := by unfold RelD at h; exact h
theorem relD_non (h : RelD K φ μ H .non v) : v = .non := by unfold RelD at h; exact h
theorem relD_tup {ds : List D} (h : RelD K φ μ H (.tup ds) v) : ∃ a vs, v = .ref a ∧ SqT K H a vs ∧ RelL K φ μ H ds vs := by unfold RelD at h; exact h
theorem relD_flst {ds : List D} (h : RelD K φ μ H (.flst ds) v) : ∃ a vs, v = .ref a ∧ FzL K φ H a vs ∧ RelL K φ μ H ds vs := by unfold RelD at h; exact h
theorem relD_loc {n : Nat} (h : RelD K φ μ H (.loc n) v) : ∃ a, v = .ref a ∧ μ[n]? = some a := by unfold RelD at h; exact h
theorem mk_int {i : Int} : RelD K φ μ H (.int i) (.int i) := by unfold RelD; rfl
theorem mk_bl {i : Bool} : RelD K φ μ H (.bl i) (.bl i) := by unfold RelD; rfl
theorem mk_str {i : Str} : RelD K φ μ H (.str i) (.str i) := by unfold RelD; rfl
theorem mk_non : RelD K φ μ H .non .non := by unfold RelD; rfl
theorem mk_tup {ds : List D} {a : Addr} {vs : List V} (h : SqT K H a vs) (r : RelL K φ μ H ds vs) : RelD K φ μ H (.tup ds) (.ref a) := by unfold RelD; exact ⟨a, vs, rfl, h, r⟩
theorem mk_flst {ds : List D} {a : Addr} {vs : List V} (h : FzL K φ H a vs) (r : RelL K φ μ H ds vs) : RelD K φ μ H (.flst ds) (.ref a) := by unfold RelD; exact ⟨a, vs, rfl, h, r⟩
theorem mk_loc {n : Nat} {a : Addr} (h : μ[n]? = some a) : RelD K φ μ H (.loc n) (.ref a) := by unfold RelD; exact ⟨a, rfl, h⟩
/-- the items of a sequence -/
theorem sq_rel {s : Sto} {d : D} {q : Bool × List D} (rs : RelS K φ μ H s) (rd : RelD K φ μ H d v) (h : sq d s = some q) : relQ K φ μ H q v := by
  cases d with
  | tup ds =>
    obtain ⟨a, vs, e, h1, h2⟩ := relD_tup rd
    cases h
    exact ⟨a, vs, e, h1, h2⟩
  | flst ds =>
    obtain ⟨a, vs, e, h1, h2⟩ := relD_flst rd
    cases h
    exact ⟨a, vs, e, h1.sq, h2⟩
  | loc n =>
    obtain ⟨a, e, h1⟩ := relD_loc rd
    simp only [sq] at h
    cases z : s[n]? with
    | none => simp [z] at h
    | some c =>
      cases c with
      | lst ys =>
        simp only [z, Option.some.injEq] at h
        subst h
        obtain ⟨vs, e1, e2⟩ := rs.cell n _ a z h1
        exact ⟨a, vs, e, SqL.of e1, e2⟩
  | _ => cases h
end
theorem RelC.fresh_ok {K : PySem.W.Frag} {φ : Fz} {μ : List Addr} {H : Hp} {a : Addr} {vs : List V} {xs : List D} (h : H a = some (.lst vs)) (r : RelL K φ μ H xs vs) : RelC K φ μ H (.lst xs) a := ⟨vs, h, r⟩
/-- a new list is given a place -/
theorem RelS.place {K : PySem.W.Frag} {φ : Fz} {μ : List Addr} {H : Hp} {s : Sto} {a : Addr} {vs : List V} {xs : List D} (rs : RelS K φ μ H s) (h : H a = some (.lst vs)) (n1 : ∀ b, (b, a) ∉ φ) (n2 : a ∉ μ) (r : RelL K φ μ H xs vs) :
    RelS K φ (μ ++ [a]) H (s ++ [.lst xs]) ∧ (μ ++ [a])[s.length]? = some a := by
  refine ⟨⟨?_, by rw [List.length_append, List.length_append, rs.len]; rfl, fun n c b e1 e2 => ?_, fun b hb z => ?_, rs.here, rs.one⟩, by rw [← rs.len]; simp⟩
  · rw [List.nodup_append]
    refine ⟨rs.nd, by simp, fun x hx y hy e => n2 ?_⟩
    have : y = a := by simpa using hy
    rw [← this, ← e]; exact hx
  · by_cases hn : n < s.length
    · rw [List.getElem?_append_left hn] at e1
      rw [List.getElem?_append_left (by rw [rs.len]; exact hn)] at e2
      exact (rs.cell n c b e1 e2).up_but Le.grow rfl
    · rw [List.getElem?_append_right (by omega)] at e1
      rw [List.getElem?_append_right (by rw [rs.len]; omega), rs.len] at e2
      have hn0 : n - s.length = 0 := by
        have := (List.getElem?_eq_some_iff.mp e1).1
        simp at this
        omega
      rw [hn0] at e1 e2
      have e1' : Cell.lst xs = c := by simpa using e1
      have e2' : a = b := by simpa using e2
      subst e1' e2'
      exact ⟨vs, h, r.up Le.grow⟩
  · rcases List.mem_append.mp z with z | z
    · exact rs.apart b hb z
    · have : b.2 = a := by simpa using z
      exact n1 b.1 (this ▸ hb)
section
variable {K : PySem.W.Frag} {xc : XcT} {o : Orc} {W : WX} {X : Cx} {e : E} {x : Expr}
theorem to_E (h : PE X x (rdP K xc o W e)) : PE X x (rdE K xc o W e) := PE.imp h fun σ H Q => by
  rintro ⟨φ, μ, env, s, rs, re, h⟩
  refine ⟨φ, μ, env, s, rs, re, Fin.bind (r := ev o e env s) h fun p s' φ' μ' H' v l rs' rl h' => ?_⟩
  cases p with
  | val d => exact h'.here rs' rl
  | new xs =>
    obtain ⟨a, vs, e1, h1, n1, n2, r⟩ := rl
    obtain ⟨p1, p2⟩ := rs'.place h1 n1 n2 r
    exact h' _ _ _ _ Le.grow p1 (e1 ▸ mk_loc p2)
  | rg xs => exact rl.elim
theorem sqP_rel {φ : Fz} {μ : List Addr} {H : Hp} {s : Sto} {p : P} {v : V} {q : Bool × List D} (rs : RelS K φ μ H s) (rl : relP K φ μ H p v) (h : sqP p s = some q) : relQ K φ μ H q v := by
  cases p with
  | val d => exact sq_rel rs rl h
  | new xs =>
    obtain ⟨a, vs, e1, h1, n1, n2, r⟩ := rl
    cases h
    exact ⟨a, vs, e1, SqL.of h1, r⟩
  | rg xs => exact rl.elim
theorem to_Q (h : PE X x (rdP K xc o W e)) : PE X x (rdQ K xc o W e) := PE.imp h fun σ H Q => by
  rintro ⟨φ, μ, env, s, rs, re, h⟩
  refine ⟨φ, μ, env, s, rs, re, Fin.bind (r := ev o e env s) h fun p s' φ' μ' H' v l rs' rl h' => ?_⟩
  cases q : sqP p s' with
  | none => simp only [q, R.ofO_none, R.bind_no] at h'; exact h'.elim
  | some ys =>
    simp only [q, R.ofO_some, R.bind_ok] at h'
    exact h'.here rs' (sqP_rel rs' rl q)
end
end Mi

/-! # Does a tree of the small language stand for a piece of the text; the rules, one a construct -/
namespace Mi
open PySem L2
/-- where a piece stands: names by slot, the scope that runs, the names that may be stored though they are cells -/
structure SC where
  N : List Str
  sc : Scope
  fn : Str → Bool
/-- the table: names that the module leaves to the built-ins, functions, constants -/
structure Tab where
  frees : List Str
  fname : Nat → Option Str
  fdef : Nat → Option FDef
  keep : Nat → Bool
  glos : List (Str × D)
  kws : Nat → List (List Str × List Nat) := fun _ => []
def memS (x : Str) (l : List Str) : Bool := l.any fun y => decide (x = y)
theorem memS_mem {x : Str} {l : List Str} (h : memS x l = true) : x ∈ l := by
  unfold memS at h
  rw [List.any_eq_true] at h
  obtain ⟨y, h1, h2⟩ := h
  rw [of_decide_eq_true h2]
  exact h1
def isKind (sc : Scope) (x : Str) (k : NameKind) : Bool := decide (sc.names.lookup x = some k)
def visB (sc : Scope) (x : Str) : Bool := isKind sc x .local || isKind sc x .cell || isKind sc x .free
theorem visB_ok {sc : Scope} {x : Str} (h : visB sc x = true) : Vis sc x := by
  unfold visB isKind at h
  simp only [Bool.or_eq_true, decide_eq_true_eq] at h
  rcases h with (h | h) | h
  · exact .inl h
  · exact .inr (.inl h)
  · exact .inr (.inr h)
def plainName (x : Str) : Bool := !(x == ("__debug__" : Str)) && !(x == ("__classdict__" : Str)) && !(x == ("__name__" : Str))
def notStar : Expr → Bool
  | .Starred _ _ => false
  | _ => true
theorem star_cons {e : Expr} {es : List Expr} {env : PySem.Env} (h : notStar e = true) : starEach (e :: es) env = (false, PySem.eval e env) :: starEach es env := by
  cases e <;> first | rfl | cases h
def noStars (es : List Expr) : Bool := es.all notStar
theorem noStars_back {es : List Expr} {env : PySem.Env} {pos : Pos} (h : noStars es = true) : (backTo pos (starEach es env)).any (·.1) = false := by
  induction es with
  | nil => rfl
  | cons e es ih =>
    obtain ⟨h1, h2⟩ := Bool.and_eq_true_iff.mp (show (notStar e && noStars es) = true from h)
    rw [star_cons h1]
    have := ih h2
    unfold backTo at this ⊢
    simpa using this
def notComp : Expr → Bool
  | .ListComp _ _ _ _ => false
  | .SetComp _ _ _ _ => false
  | .DictComp _ _ _ _ _ => false
  | _ => true
theorem swaps_none {e : Expr} {t : Option Expr} {l : Nat} {env : PySem.Env} (h : notComp e = true) : swapsWith e t l env = pure false := by
  cases e <;> first | rfl | cases h
def notSet : Expr → Bool
  | .Set _ _ _ => false
  | _ => true
theorem folded_none {e : Expr} {env : PySem.Env} {x : Value} (h : notSet e = true) : foldedSetIterable e env x = pure x := by
  cases e <;> first | rfl | cases h
/-- an expression whose test is its value's truth -/
def plainTest : Expr → Bool
  | .UnaryOp _ _ _ => false
  | .BoolOp _ _ _ => false
  | .IfExp _ _ _ _ => false
  | .Compare _ _ _ _ => false
  | _ => true
theorem plain_true {e : Expr} {env : PySem.Env} {whole : Sem Value} (h : plainTest e = true) : PySem.isTrue e env whole = (do let v ← whole; standAt e.pos; holding [v] (truthy v)) := by
  cases e <;> first | rfl | cases h
def notSlice : Expr → Bool
  | .Slice _ _ _ _ => false
  | _ => true
def blk (C : SC) (scope : Scope) : SC := ⟨C.N, relS scope C.sc, fun x => scope.names.lookup x == some .cell⟩
def opIs : Op → Operator → Bool
  | .add, .Add => true | .sub, .Sub => true | .mul, .Mult => true | .fdv, .FloorDiv => true | .mod, .Mod => true | .pow, .Pow => true
  | _, _ => false
def cmIs : Cm → CmpOp → Bool
  | .eq, .Eq => true | .ne, .NotEq => true | .lt, .Lt => true | .le, .LtE => true | .gt, .Gt => true | .ge, .GtE => true | .isN, .Is => true | .notN, .IsNot => true
  | _, _ => false
def conIs : D → Const → Bool
  | .non, .none => true
  | .bl a, .bool b => decide (a = b)
  | .int a, .int b => decide (a = b)
  | .str a, .str b => decide (a = b)
  | _, _ => false
/-- a name that is left to the built-ins -/
def bltB (T : Tab) (C : SC) (x y : Str) : Bool := decide (x = y) && isKind C.sc x .globalImplicit && memS x T.frees
def tyName : Ty → Str
  | .int => "int" | .bool => "bool" | .str => "str" | .tuple => "tuple" | .list => "list"
def tyStr : Ty → String
  | .int => "int" | .bool => "bool" | .str => "str" | .tuple => "tuple" | .list => "list"
def b1Name : B1 → Str
  | .int => "int" | .abs => "abs" | .len => "len" | .repr => "repr" | .isi _ => "isinstance"
def b2Name : B2 → Str
  | .min => "min" | .max => "max"
def bqName : Bq → Str
  | .all => "all" | .any => "any" | .sum => "sum" | .tuple => "tuple" | .list => "list" | .max => "max" | .min => "min"
def nmIs (C : SC) (i : Nat) (x : Str) : Bool := decide (C.N[i]? = some x) && (isKind C.sc x .local || (isKind C.sc x .cell && C.fn x))
def mtNms (C : SC) : List Nat → List Expr → Bool
  | [], [] => true
  | i :: is, .Name x _ :: es => nmIs C i x && mtNms C is es
  | _, _ => false
def mtTg (C : SC) : Tg → Expr → Bool
  | .nm i, .Name x _ => nmIs C i x
  | .tp is, .Tuple es _ _ => mtNms C is es
  | _, _ => false
def tgIn (own : List Nat) : Tg → Bool
  | .nm i => own.contains i
  | .tp is => is.all fun i => own.contains i
/-- how the stores of a tuple of names go -/
def swNames (sc : Scope) (ts : List Expr) : List Str := ts.filterMap fun
  | .Name id pos => if sc.names.lookup id == some .local && pos.line == (ts.head?.map (·.pos.line)).getD 0 then some id else none
  | _ => none
def blkKind (sc : Scope) : ScopeKind := if sc.kind.isAnnotationScope then .function else sc.kind
def swp (sc : Scope) (ts vs : List Expr) : Option (Option (List Str)) :=
  if (!(ts.length == 2 || ts.length == 3) || vs.length != ts.length || blkKind sc != .function) = true then some none
  else if (vs.any fun | .Starred .. => true | _ => false) = true then some none
  else if ((swNames sc ts).length != ts.length || (swNames sc ts).eraseDups.length != (swNames sc ts).length) = true then some none
  else if vs.all (foldedForSure 8) = true then some none
  else if vs.all (constantsAlone 8) = true then none
  else some (some (swNames sc ts))
theorem swp_ok {sc : Scope} {ts vs : List Expr} {r : Option (List Str)} (h : swp sc ts vs = some r) {env : PySem.Env} (he : env.scope = sc) {k k2 : Nat} {p p2 : Pos} : swappedStores [.Tuple ts k p] (.Tuple vs k2 p2) env = pure r := by
  subst he
  unfold swp at h
  unfold swappedStores
  have hb : env.blockKind = blkKind env.scope := rfl
  simp only [hb, Env.kindOf]
  split at h
  · rename_i c; cases h; exact if_pos c
  rename_i c1
  refine (if_neg c1).trans ?_
  split at h
  · rename_i c; cases h; exact if_pos c
  rename_i c2
  refine (if_neg c2).trans ?_
  split at h
  · rename_i c; cases h; exact if_pos c
  rename_i c3
  refine (if_neg c3).trans ?_
  split at h
  · rename_i c; cases h; exact if_pos c
  rename_i c4
  refine (if_neg c4).trans ?_
  split at h
  · cases h
  rename_i c5
  cases h
  exact if_neg c5
/-- how a piece is read: as a value, as a test, as what a loop goes along -/
inductive Md where | v | t | i
  deriving DecidableEq
mutual
/-- does it match -/
def mtE (T : Tab) : Md → SC → E → Expr → Bool
  | m, C, .var i, x => (match x with
    | .Name x _ => decide (C.N[i]? = some x) && visB C.sc x && plainName x
    | _ => false)
  | m, _, .con d, x => (match x with
    | .Constant c _ _ => conIs d c
    | _ => false)
  | m, C, .glo d, x => (match x with
    | .Name x _ => isKind C.sc x .globalImplicit && plainName x && T.glos.any (fun p => decide (p.1 = x) && p.2.same d)
    | _ => false)
  | m, C, .bin op a b, x => (match x with
    | .BinOp l o r _ => opIs op o && mtE T .v C a l && mtE T .v C b r
    | _ => false)
  | m, C, .neg a, x => (match x with
    | .UnaryOp .USub l _ => decide (m ≠ .t) && mtE T .v C a l
    | _ => false)
  | m, C, .not a, x => (match x with
    | .UnaryOp .Not l _ => decide (m ≠ .i) && mtE T m C a l
    | _ => false)
  | m, C, .and es, x => (match x with
    | .BoolOp .And ls _ => decide (m ≠ .i) && mtB T m C es ls
    | _ => false)
  | m, C, .or es, x => (match x with
    | .BoolOp .Or ls _ => decide (m ≠ .i) && mtB T m C es ls
    | _ => false)
  | m, C, .cmp op a b, x => (match x with
    | .Compare l [o] [r] _ => cmIs op o && mtE T .v C a l && mtE T .v C b r
    | _ => false)
  | m, C, .chn o1 o2 a b c, x => (match x with
    | .Compare l [p1, p2] [q, r] _ => cmIs o1 p1 && cmIs o2 p2 && mtE T .v C a l && mtE T .v C b q && mtE T .v C c r && notSet r
    | _ => false)
  | m, C, .ite c a b, x => (match x with
    | .IfExp q l r _ => decide (m ≠ .t) && mtE T .t C c q && mtE T .v C a l && mtE T .v C b r
    | _ => false)
  | m, C, .tup es, x => (match x with
    | .Tuple ls _ _ => mtEs T C es ls
    | _ => false)
  | m, C, .lst es, x => (match x with
    | .List ls _ => mtEs T C es ls
    | _ => false)
  | m, C, .fn f es, x => (match x with
    | .Call (.Name x _) ls [] _ => decide (T.fname f = some x) && isKind C.sc x .globalImplicit && plainName x && mtEs T C es ls
    | _ => false)
  | m, C, .fnk f es ns p, x => (match x with
    | .Call (.Name x _) [] (kw :: kws) _ => decide (T.fname f = some x) && isKind C.sc x .globalImplicit && plainName x && decide ((ns, p) ∈ T.kws f) && mtKs T C es ns (kw :: kws)
    | _ => false)
  | m, C, .b1 f a, x => (match x with
    | .Call (.Name x _) (l :: ls) [] _ => bltB T C x (b1Name f) && mtE T .v C a l && notStar l && (match f, ls with
      | .isi y, [.Name z _] => bltB T C z (tyName y)
      | .isi _, _ => false
      | _, [] => true
      | _, _ => false)
    | _ => false)
  | m, C, .b2 f a b, x => (match x with
    | .Call (.Name x _) [l, r] [] _ => bltB T C x (b2Name f) && mtE T .v C a l && mtE T .v C b r && notStar l && notStar r
    | _ => false)
  | m, C, .bq f a, x => (match x with
    | .Call (.Name x _) [l] [] _ => bltB T C x (bqName f) && mtE T .v C a l && notStar l
    | _ => false)
  | m, C, .rng es, x => (match x with
    | .Call (.Name x _) ls [] _ => decide (m = .i ∧ (ls.length = 1 ∨ ls.length = 2)) && bltB T C x "range" && mtEs T C es ls
    | _ => false)
  | m, C, .lrg es, x => (match x with
    | .Call (.Name x _) [.Call (.Name y _) ls [] _] [] _ => decide (ls.length = 1 ∨ ls.length = 2) && bltB T C x "list" && bltB T C y "range" && mtEs T C es ls
    | _ => false)
  | m, C, .idx a b, x => (match x with
    | .Subscript l r _ => mtE T .v C a l && mtE T .v C b r && notSlice r
    | _ => false)
  | m, C, .slc a lo hi, x => (match x with
    | .Subscript l (.Slice p q none _) _ => mtE T .v C a l && (match p with
      | none => isNonE lo
      | some p => !isNonE lo && mtE T .v C lo p) && (match q with
      | none => isNonE hi
      | some q => !isNonE hi && mtE T .v C hi q)
    | _ => false)
  | m, C, .lc elt tg it own, x => (match x with
    | .ListComp elt' [⟨tg', it', [], 0⟩] scope _ => blkC C.N C.sc scope (own.map fun i => (C.N.getD i "", i)) && mtE T .i C it it' && notSet it' && mtTg (blk C scope) tg tg' && tgIn own tg && mtE T .v (blk C scope) elt elt'
    | _ => false)
/-- the parts of an and | or -/
def mtB (T : Tab) : Md → SC → Es → List Expr → Bool
  | m, C, .cons e .nil, [l] => mtE T m C e l
  | m, C, .cons e (.cons e2 r), l :: l2 :: ls => mtE T m C e l && mtB T m C (.cons e2 r) (l2 :: ls)
  | _, _, _, _ => false
/-- keywords with their values -/
def mtKs (T : Tab) : SC → Es → List Str → List Keyword → Bool
  | _, .nil, [], [] => true
  | C, .cons e r, n :: ns, ⟨some m, l, _⟩ :: ls => decide (n = m) && mtE T .v C e l && mtKs T C r ns ls
  | _, _, _, _ => false
def mtEs (T : Tab) : SC → Es → List Expr → Bool
  | _, .nil, [] => true
  | C, .cons e r, l :: ls => mtE T .v C e l && notStar l && mtEs T C r ls
  | _, _, _ => false
end
mutual
def mtS (T : Tab) : SC → S → Stmt → Bool
  | C, .asg tg e, x => (match x with
    | .Assign [tg'] e' _ => mtE T .v C e e' && mtTg C tg tg' && (match tg, tg', e' with
      | .nm i, .Name y py, .ListComp _ _ scope lp => decide (C.sc.kind = .function) && decide (C.N[i]? = some y) && isKind C.sc y .local && (py.line == lp.line) && !(scope.names.any fun (n, k) => n == y && (k == .local || k == .cell))
      | .tp _, _, .Tuple _ _ _ => false
      | _, _, _ => notComp e')
    | _ => false)
  | C, .sto a i e, x => (match x with
    | .Assign [.Subscript a' i' _] e' _ => mtE T .v C e e' && mtE T .v C a a' && mtE T .v C i i' && notComp e' && notSlice i'
    | _ => false)
  | C, .par is es, x => (match x with
    | .Assign [.Tuple ts _ _] (.Tuple vs _ _) _ => mtEs T C es vs && mtNms C is ts && decide (is.length ≤ 100) && (match is, ts, vs with
      | [i, j], [.Name x _, .Name y _], [_, _] => decide (swp C.sc ts vs = some none) || (decide (swp C.sc ts vs = some (some [x, y])) && isKind C.sc x .local && isKind C.sc y .local && decide (i ≠ j))
      | [i, j, l], [.Name x _, .Name y _, .Name z _], [_, _, _] => decide (swp C.sc ts vs = some none) || (decide (swp C.sc ts vs = some (some [x, y, z])) && isKind C.sc x .local && isKind C.sc y .local && isKind C.sc z .local && decide (i ≠ j) && decide (i ≠ l) && decide (j ≠ l))
      | _, _, _ => decide (swp C.sc ts vs = some none))
    | _ => false)
  | C, .expr e, x => (match x with
    | .Expr e' _ => mtE T .v C e e' && notComp e'
    | _ => false)
  | C, .ret e, x => (match x with
    | .Return (some e') _ => mtE T .v C e e'
    | _ => false)
  | _, .pass, x => (match x with
    | .Pass _ => true
    | _ => false)
  | _, .brk, x => (match x with
    | .Break _ => true
    | _ => false)
  | _, .cnt, x => (match x with
    | .Continue _ => true
    | _ => false)
  | C, .iff c a b, x => (match x with
    | .If c' a' b' _ => mtE T .t C c c' && mtSs T C a a' && mtSs T C b b'
    | _ => false)
  | C, .whl c b, x => (match x with
    | .While c' b' [] _ => mtE T .t C c c' && mtSs T C b b'
    | _ => false)
  | C, .fr tg it b, x => (match x with
    | .For tg' it' b' [] _ => mtE T .i C it it' && notSet it' && mtTg C tg tg' && mtSs T C b b'
    | _ => false)
  | _, .rais _ _, x => (match x with
    | .Raise _ _ _ => true
    | _ => false)
def mtSs (T : Tab) : SC → Ss → List Stmt → Bool
  | _, .nil, [] => true
  | C, .cons st r, l :: ls => mtS T C st l && mtSs T C r ls
  | _, _, _ => false
end
/-! ### functions -/
/-- as FnOk of the hand layer, where the guards (what is being shown) are known to be none; errors may leave -/
structure FnG (P : Program) (w : World) (K : PySem.W.Frag) (mg : Str → Option Value) (base : Heap) (k : Nat) (f : Addr) (fd : PySem.FuncData) (ps : List Str) (sp : Sp) : Prop where
  len : ∀ vs H Q E, sp vs H Q E → vs.length = ps.length
  run : ∀ (A : Around) (outer : List PySem.Env) (s : Shared) (H : Hp) (args : Args) (us : List Value) (vs : List V) (Q : VK) (E : XK), A.guards = some [] → Room k A → Env0 P w K mg base A outer s H → BindsTo s fd args (ps.zip us) → Vals vs us → sp vs H Q E →
    codeAny (model P w) A (.call (.ref f) args) (CR (L2.CX P w) outer P w H s Q E) s
end Mi

/-! # The rules, one a construct -/
namespace Mi
open PySem L2
/-- what a function of the table promises -/
def spF (K : PySem.W.Frag) (xc : XcT) (o : Orc) (f : Nat) : Sp := fun vs H Q E => ∃ φ μ s ds, RelS K φ μ H s ∧ RelL K φ μ H ds vs ∧ Fin K xc (fun c d _ H' => E c d H') (RelD K) φ μ H [] (o f ds s) Q
/-- a call by keywords: their names, which value goes to which parameter -/
def KB (K : PySem.W.Frag) (fd : PySem.FuncData) (ps : List Str) (q : List Str × List Nat) : Prop :=
  ∀ (s : Shared) (us ws : List Value), K.In s.heap → us.length = q.1.length → permOf us q.2 = some ws → BindsTo s fd ⟨[], q.1.zip us⟩ (ps.zip ws)
/-- where a piece runs -/
structure Good (T : Tab) (xc : XcT) (o : Orc) (W : WX) (k : Nat) (C : SC) (X : Cx) : Prop where
  calm : X.calm = true
  nd : C.N.Nodup
  N : X.N = C.N
  sc : X.env.scope = C.sc
  fn : X.fn = C.fn
  free : ∀ x ∈ T.frees, X.mg x = none
  room : Room k X.A
  guards : X.A.guards = some []
  takes : Takes X W
  own : PassesOwn (model X.prog X.w) X.A X.env X.xe
  glo : ∀ p ∈ T.glos, ∃ u v, X.mg p.1 = some u ∧ RelV v u ∧ ∀ φ μ H, RelD X.K φ μ H p.2 v
  call : ∀ f x, T.fname f = some x → ∃ fa fd ps, X.mg x = some (.ref fa) ∧ PySem.W.keepIn X.K (.ref fa) = true ∧ Binds X.K fd ps [] ∧ (∀ q ∈ T.kws f, KB X.K fd ps q) ∧ FnG X.prog X.w X.K X.mg X.base k fa fd ps (spF X.K xc o f)
section
variable {T : Tab} {xc : XcT} {o : Orc} {W : WX} {k : Nat} {C : SC} {X : Cx}
theorem and4 {a b c d : Bool} (h : (a && b && c && d) = true) : a = true ∧ b = true ∧ c = true ∧ d = true := by
  simp only [Bool.and_eq_true] at h
  exact ⟨h.1.1.1, h.1.1.2, h.1.2, h.2⟩
theorem and3 {a b c : Bool} (h : (a && b && c) = true) : a = true ∧ b = true ∧ c = true := by
  simp only [Bool.and_eq_true] at h
  exact ⟨h.1.1, h.1.2, h.2⟩
theorem and2 {a b : Bool} (h : (a && b) = true) : a = true ∧ b = true := by
  simp only [Bool.and_eq_true] at h
  exact h
theorem plain_dbg {x : Str} (h : plainName x = true) : (x == ("__debug__" : Str)) = false ∧ (x == ("__classdict__" : Str)) = false ∧ x ≠ "__name__" := by
  unfold plainName at h
  obtain ⟨h1, h2, h3⟩ := and3 h
  refine ⟨by simpa using h1, by simpa using h2, fun e => ?_⟩
  rw [e] at h3
  simp at h3
/-- a name that is left to the built-ins -/
theorem blt_ok (G : Good T xc o W k C X) {x y : Str} (h : bltB T C x y = true) : x = y ∧ Gl X y ∧ X.mg y = none := by
  unfold bltB isKind at h
  obtain ⟨h1, h2, h3⟩ := and3 h
  have e := of_decide_eq_true h1
  subst e
  refine ⟨rfl, ?_, G.free x (memS_mem h3)⟩
  show X.env.scope.names.lookup x = some .globalImplicit
  rw [G.sc]
  exact of_decide_eq_true h2
/-! ### how a piece that gives a value at once is read -/
/-- a reading with a value, by its end -/
theorem fin_val {K : PySem.W.Frag} {φ : Fz} {μ : List Addr} {H : Hp} {σ : St} {d : D} {s : Sto} {Q : V → Hp → Prop} {v : V} (h : Fin K xc W (relP K) φ μ H σ (okv d s) Q) (rs : RelS K φ μ H s) (rd : RelD K φ μ H d v) : Q v H := h φ μ H v Le.refl rs rd
theorem fin_ofOv {K : PySem.W.Frag} {φ : Fz} {μ : List Addr} {H : Hp} {σ : St} {d : Option D} {s : Sto} {Q : V → Hp → Prop} (h : Fin K xc W (relP K) φ μ H σ (ofOv d s) Q) : ∃ x, d = some x ∧ Fin K xc W (relP K) φ μ H σ (okv x s) Q := by
  cases d with
  | some x => exact ⟨x, rfl, h⟩
  | none => exact h.elim
/-- one value, then the rest -/
theorem seqv {K : PySem.W.Frag} {e : E} {σ : St} {H : Hp} {φ : Fz} {μ : List Addr} {env : Env} {s : Sto} {γ δ : Type} {rel2 : Rl γ δ} {f : D → Sto → R γ} {Q : δ → Hp → Prop} {Q1 : V → Hp → Prop} (rs : RelS K φ μ H s) (re : RelE K φ μ H env σ)
    (h : Fin K xc W rel2 φ μ H σ ((ev o e env s).bindv f) Q)
    (k : ∀ d s' φ' μ' H' v, Le K φ μ H φ' μ' H' → RelS K φ' μ' H' s' → RelE K φ' μ' H' env σ → RelD K φ' μ' H' d v → Fin K xc W rel2 φ' μ' H' σ (f d s') Q → Q1 v H') : rdE K xc o W e σ H Q1 :=
  ⟨φ, μ, env, s, rs, re, Fin.bind (r := evv o e env s) h fun d s' φ' μ' H' v l rs' rd h' => k d s' φ' μ' H' v l rs' (re.up l) rd h'⟩
theorem s_var {m : Md} {i : Nat} {e : Expr} (G : Good T xc o W k C X) (h : mtE T m C (.var i) e = true) : PE X e (rdP X.K xc o W (.var i)) := by
  unfold mtE at h
  cases e <;> first | cases h | skip
  rename_i x pos
  obtain ⟨h1, h2, h3⟩ := and3 h
  obtain ⟨d1, d2, _⟩ := plain_dbg h3
  refine PE.imp (pe_var (i := i) (by rw [G.N]; exact of_decide_eq_true h1) (by rw [G.sc]; exact visB_ok h2) d1 d2) fun σ H Q => ?_
  rintro ⟨φ, μ, env, s, rs, re, h⟩
  simp only [ev] at h
  cases q : env[i]? with
  | none => simp only [q] at h; exact h.elim
  | some od =>
    cases od with
    | none => simp only [q] at h; exact h.elim
    | some d =>
      simp only [q] at h
      obtain ⟨v, e1, e2⟩ := re.at_ i d q
      exact ⟨v, e1, fin_val h rs e2⟩
theorem s_glo {m : Md} {d : D} {e : Expr} (G : Good T xc o W k C X) (h : mtE T m C (.glo d) e = true) : PE X e (rdP X.K xc o W (.glo d)) := by
  unfold mtE at h
  cases e <;> first | cases h | skip
  rename_i x pos
  obtain ⟨h1, h2, h3⟩ := and3 h
  obtain ⟨p, hp, h4⟩ := List.any_eq_true.mp h3
  obtain ⟨h5, h6⟩ := and2 h4
  have e1 := of_decide_eq_true h5
  have e2 := D.same_eq h6
  obtain ⟨u, v, g1, g2, g3⟩ := G.glo p hp
  have hgl : Gl X x := by
    show X.env.scope.names.lookup x = some .globalImplicit
    rw [G.sc]
    exact of_decide_eq_true h1
  refine PE.imp (pe_glob hgl (by rw [← e1]; exact g1) g2 (plain_dbg h2).1) fun σ H Q => ?_
  rintro ⟨φ, μ, env, s, rs, re, h⟩
  simp only [ev] at h
  exact fin_val h rs (e2 ▸ g3 φ μ H)
theorem s_con {m : Md} {d : D} {e : Expr} (h : mtE T m C (.con d) e = true) : PE X e (rdP X.K xc o W (.con d)) := by
  unfold mtE at h
  cases e <;> first | cases h | skip
  rename_i c j pos
  have fin : ∀ v, (∀ φ μ H, RelD X.K φ μ H d v) → PE X (.Constant c j pos) (tC v) → PE X (.Constant c j pos) (rdP X.K xc o W (.con d)) := fun v hv hp => PE.imp hp fun σ H Q ⟨φ, μ, env, s, rs, re, h⟩ => by
    simp only [ev] at h
    exact fin_val h rs (hv φ μ H)
  cases d <;> cases c <;> first | cases h | skip
  · exact fin .non (fun _ _ _ => mk_non) pe_non
  · rename_i a b
    have e := of_decide_eq_true h
    subst e
    exact fin (.bl a) (fun _ _ _ => mk_bl) pe_bl
  · rename_i a b
    have e := of_decide_eq_true h
    subst e
    exact fin (.int a) (fun _ _ _ => mk_int) pe_int
  · rename_i a b
    have e := of_decide_eq_true h
    subst e
    exact fin (.str a) (fun _ _ _ => mk_str) pe_str
/-! ### operators -/
theorem op_powW : OpR X (binaryOp .Pow) (rI (fun i j => 0 ≤ j ∧ (Builtin.Int.intBits i : Int) * j ≤ 2 ^ 27) fun i j => .int (i ^ j.toNat)) := by
  intro pins s σ H x y v u Q I rx ry h
  obtain ⟨i, j, rfl, rfl, hc, q⟩ := h
  obtain ⟨t, rfl⟩ := rx
  obtain ⟨t', rfl⟩ := ry
  exact PyProof.Rows.pow_int hc.1 hc.2 ⟨.int _, H, I.tok _, ⟨_, rfl⟩, q⟩
/-- an operator on two ints -/
theorem bin_ints {op : Op} {a b : E} {l r : Expr} {q : Operator} {pos : Pos} {Cn : Int → Int → Prop} {g : Int → Int → V} (ho : OpR X (binaryOp q) (rI Cn g)) (hg : ∀ i j k, binI op i j = some k → Cn i j ∧ g i j = .int k)
    (ha : PE X l (rdE X.K xc o W a)) (hb : PE X r (rdE X.K xc o W b)) : PE X (.BinOp l q r pos) (rdP X.K xc o W (.bin op a b)) := by
  refine PE.imp (pe_op ho ha hb) fun σ H Q => ?_
  rintro ⟨φ, μ, env, s, rs, re, h⟩
  simp only [ev] at h
  refine seqv rs re h fun x s1 φ1 μ1 H1 v l1 rs1 re1 rd1 h1 => seqv rs1 re1 h1 fun y s2 φ2 μ2 H2 u l2 rs2 re2 rd2 h2 => ?_
  obtain ⟨z, e, h3⟩ := fin_ofOv h2
  cases x <;> first | (simp [binop] at e; done) | skip
  rename_i i
  cases y <;> first | (simp [binop] at e; done) | skip
  rename_i j
  simp only [binop, Option.map_eq_some_iff] at e
  obtain ⟨n, e1, e2⟩ := e
  subst e2
  obtain ⟨c, e3⟩ := hg i j n e1
  refine ⟨i, j, relD_int (rd1.up l2), relD_int rd2, c, ?_⟩
  rw [e3]
  exact fin_val h3 rs2 mk_int
theorem s_bin {m : Md} {op : Op} {a b : E} {e : Expr} (ia : ∀ l, mtE T .v C a l = true → PE X l (rdP X.K xc o W a)) (ib : ∀ l, mtE T .v C b l = true → PE X l (rdP X.K xc o W b)) (h : mtE T m C (.bin op a b) e = true) : PE X e (rdP X.K xc o W (.bin op a b)) := by
  unfold mtE at h
  cases e <;> first | cases h | skip
  rename_i l q r pos
  obtain ⟨h1, h2, h3⟩ := and3 h
  have pa := to_E (ia l h2)
  have pb := to_E (ib r h3)
  cases op <;> cases q <;> first | cases h1 | skip
  · exact bin_ints (Cn := fun _ _ => True) (fun pins s σ H x y v u Q I rx ry ⟨i, j, e1, e2, _, q⟩ => op_add pins s σ H x y v u Q I rx ry ⟨i, j, e1, e2, q⟩) (fun i j k e => by simp only [binI, Option.some.injEq] at e; exact ⟨trivial, by rw [e]⟩) pa pb
  · exact bin_ints (Cn := fun _ _ => True) (fun pins s σ H x y v u Q I rx ry ⟨i, j, e1, e2, _, q⟩ => op_sub pins s σ H x y v u Q I rx ry ⟨i, j, e1, e2, q⟩) (fun i j k e => by simp only [binI, Option.some.injEq] at e; exact ⟨trivial, by rw [e]⟩) pa pb
  · refine bin_ints op_mulW (fun i j k e => ?_) pa pb
    simp only [binI] at e
    split at e
    · rename_i c
      cases e
      exact ⟨by unfold bigOk at c; unfold CMulW; exact of_decide_eq_true c, rfl⟩
    · cases e
  · refine bin_ints op_fdivW (fun i j k e => ?_) pa pb
    simp only [binI] at e
    split at e
    · rename_i c
      cases e
      exact ⟨c, rfl⟩
    · cases e
  · refine bin_ints op_mod (fun i j k e => ?_) pa pb
    simp only [binI] at e
    split at e
    · rename_i c
      cases e
      exact ⟨c, rfl⟩
    · cases e
  · refine bin_ints op_powW (fun i j k e => ?_) pa pb
    simp only [binI] at e
    split at e
    · rename_i c
      cases e
      exact ⟨c, rfl⟩
    · cases e
theorem s_neg {m : Md} {a : E} {e : Expr} (ia : ∀ l, mtE T .v C a l = true → PE X l (rdP X.K xc o W a)) (h : mtE T m C (.neg a) e = true) : PE X e (rdP X.K xc o W (.neg a)) := by
  unfold mtE at h
  cases e <;> first | cases h | skip
  rename_i q l pos
  cases q <;> first | cases h | skip
  obtain ⟨_, h2⟩ := and2 h
  refine PE.imp (pe_un un_neg (to_E (ia l h2))) fun σ H Q => ?_
  rintro ⟨φ, μ, env, s, rs, re, h⟩
  simp only [ev] at h
  refine seqv rs re h fun x s1 φ1 μ1 H1 v l1 rs1 re1 rd1 h1 => ?_
  cases x <;> first | exact h1.elim | skip
  rename_i i
  exact ⟨i, relD_int rd1, fin_val h1 rs1 mk_int⟩
/-! ### truth -/
/-- is it one of them -/
inductive EsHas : Es → E → Prop where
  | head {e : E} {r : Es} : EsHas (.cons e r) e
  | tail {e a : E} {r : Es} (h : EsHas r e) : EsHas (.cons a r) e
theorem PW.imp {X : Cx} {e : Expr} {t t' : TT} (h : PW X e t) (i : ∀ σ H Q, t' σ H Q → t σ H Q) : PW X e t' := ⟨fun w pins s σ H Q I q => h.run w pins s σ H Q I (i σ H Q q)⟩
theorem emp_rel {K : PySem.W.Frag} {φ : Fz} {μ : List Addr} {H : Hp} {ds : List D} {vs : List V} (r : RelL K φ μ H ds vs) : ds.isEmpty = vs.isEmpty := by
  cases ds with
  | nil => rw [r.of_nil]; rfl
  | cons d ds => obtain ⟨v, q, rfl, _⟩ := r.of_cons; rfl
theorem truth_ok {K : PySem.W.Frag} {φ : Fz} {μ : List Addr} {H : Hp} {d : D} {v : V} {s : Sto} {b : Bool} (rs : RelS K φ μ H s) (rd : RelD K φ μ H d v) (h : truth d s = some b) : TruV K v H b := by
  have fin : ∀ q, sq d s = some q → b = !q.2.isEmpty → TruV K v H b := fun q hq e => by
    obtain ⟨a, vs, rfl, h1, h2⟩ := sq_rel rs rd hq
    rw [emp_rel h2] at e
    unfold SqA at h1
    split at h1
    · exact .inr (.inl ⟨vs, h1, e⟩)
    · exact .inl ⟨vs, h1, e⟩
  cases d with
  | non => cases relD_non rd; cases h; rfl
  | bl b => cases relD_bl rd; cases h; rfl
  | int i => cases relD_int rd; cases h; rfl
  | str x => cases h
  | tup xs => cases h; exact fin _ rfl rfl
  | flst xs => cases h; exact fin _ rfl rfl
  | loc n =>
    have h' : (sq (.loc n) s).map (fun q => !q.2.isEmpty) = some b := h
    obtain ⟨q, e1, e2⟩ := Option.map_eq_some_iff.mp h'
    exact fin q e1 e2.symm
theorem s_not {m : Md} {a : E} {e : Expr} (ia : ∀ l, mtE T .v C a l = true → PE X l (rdP X.K xc o W a)) (h : mtE T .v C (.not a) e = true) : PE X e (rdP X.K xc o W (.not a)) := by
  unfold mtE at h
  cases e <;> first | cases h | skip
  rename_i q l pos
  cases q <;> first | cases h | skip
  obtain ⟨_, h2⟩ := and2 h
  refine PE.imp (pe_notT (to_E (ia l h2))) fun σ H Q => ?_
  rintro ⟨φ, μ, env, s, rs, re, h⟩
  simp only [ev] at h
  refine seqv rs re h fun x s1 φ1 μ1 H1 v l1 rs1 re1 rd1 h1 => ?_
  cases q : truth x s1 with
  | none => simp only [q] at h1; exact h1.elim
  | some b =>
    simp only [q, R.ofO_some, R.bind_ok] at h1
    exact ⟨b, truth_ok rs1 rd1 q, fin_val h1 rs1 mk_bl⟩
/-- a plain expression as a test -/
theorem to_T {e : E} {x : Expr} (hp : plainTest x = true) (h : PE X x (rdP X.K xc o W e)) : PT X x (rdT X.K xc o W e) := by
  refine PT.imp (pt_truth (to_E h) fun _ => plain_true hp) fun σ H Q => ?_
  rintro ⟨φ, μ, env, s, rs, re, h⟩
  refine seqv rs re h fun d s1 φ1 μ1 H1 v l1 rs1 re1 rd1 h1 => ?_
  obtain ⟨b, e, h2⟩ := h1.ofO
  exact ⟨b, truth_ok rs1 rd1 e, h2.here rs1 rfl⟩
theorem t_not {a : E} {e : Expr} (ia : ∀ l, mtE T .t C a l = true → PT X l (rdT X.K xc o W a)) (h : mtE T .t C (.not a) e = true) : PT X e (rdT X.K xc o W (.not a)) := by
  unfold mtE at h
  cases e <;> first | cases h | skip
  rename_i q l pos
  cases q <;> first | cases h | skip
  obtain ⟨_, h2⟩ := and2 h
  refine PT.imp (pt_not (ia l h2)) fun σ H Q => ?_
  rintro ⟨φ, μ, env, s, rs, re, h⟩
  rw [tst_not] at h
  exact ⟨φ, μ, env, s, rs, re, Fin.bind h fun b s' φ' μ' H' c l rs' e h' => by
    cases e
    exact h'.here rs' rfl⟩
/-! ### and, or -/
theorem s_and : ∀ {es : Es} {ls : List Expr} {pos : Pos}, (∀ e l, EsHas es e → mtE T .v C e l = true → PE X l (rdP X.K xc o W e)) → mtB T .v C es ls = true → PE X (.BoolOp .And ls pos) (rdP X.K xc o W (.and es))
  | .nil, _, _, _, h => by unfold mtB at h; cases h
  | .cons a .nil, [], _, _, h => by unfold mtB at h; cases h
  | .cons a .nil, l :: m :: ls, _, _, h => by unfold mtB at h; cases h
  | .cons a .nil, [l], pos, ih, h => by
    unfold mtB at h
    refine PE.imp (pe_one (ih a l .head h)) fun σ H Q => ?_
    rintro ⟨φ, μ, env, s, rs, re, h⟩
    exact ⟨φ, μ, env, s, rs, re, by simp only [ev] at h; rw [evAnd] at h; exact h⟩
  | .cons a (.cons b r), [], _, _, h => by unfold mtB at h; cases h
  | .cons a (.cons b r), [l], _, _, h => by unfold mtB at h; cases h
  | .cons a (.cons b r), l :: m :: ls, pos, ih, h => by
    unfold mtB at h
    obtain ⟨h1, h2⟩ := and2 h
    have hr := s_and (es := .cons b r) (ls := m :: ls) (pos := pos) (fun e l he hm => ih e l (.tail he) hm) h2
    refine PE.imp (pe_andT (to_E (ih a l .head h1)) hr) fun σ H Q => ?_
    rintro ⟨φ, μ, env, s, rs, re, h⟩
    simp only [ev] at h
    rw [evAnd] at h
    refine seqv rs re h fun x s1 φ1 μ1 H1 v l1 rs1 re1 rd1 h1 => ?_
    cases q : truth x s1 with
    | none => simp only [q] at h1; exact h1.elim
    | some c =>
      refine ⟨c, truth_ok rs1 rd1 q, ?_⟩
      cases c with
      | true =>
        simp only [q] at h1
        rw [if_pos rfl]
        exact ⟨φ1, μ1, env, s1, rs1, re1, by simp only [ev]; exact h1⟩
      | false =>
        simp only [q] at h1
        rw [if_neg Bool.false_ne_true]
        exact fin_val h1 rs1 rd1
theorem s_or : ∀ {es : Es} {ls : List Expr} {pos : Pos}, (∀ e l, EsHas es e → mtE T .v C e l = true → PE X l (rdP X.K xc o W e)) → mtB T .v C es ls = true → PE X (.BoolOp .Or ls pos) (rdP X.K xc o W (.or es))
  | .nil, _, _, _, h => by unfold mtB at h; cases h
  | .cons a .nil, [], _, _, h => by unfold mtB at h; cases h
  | .cons a .nil, l :: m :: ls, _, _, h => by unfold mtB at h; cases h
  | .cons a .nil, [l], pos, ih, h => by
    unfold mtB at h
    refine PE.imp (pe_one (ih a l .head h)) fun σ H Q => ?_
    rintro ⟨φ, μ, env, s, rs, re, h⟩
    exact ⟨φ, μ, env, s, rs, re, by simp only [ev] at h; rw [evOr] at h; exact h⟩
  | .cons a (.cons b r), [], _, _, h => by unfold mtB at h; cases h
  | .cons a (.cons b r), [l], _, _, h => by unfold mtB at h; cases h
  | .cons a (.cons b r), l :: m :: ls, pos, ih, h => by
    unfold mtB at h
    obtain ⟨h1, h2⟩ := and2 h
    have hr := s_or (es := .cons b r) (ls := m :: ls) (pos := pos) (fun e l he hm => ih e l (.tail he) hm) h2
    refine PE.imp (pe_orT (to_E (ih a l .head h1)) hr) fun σ H Q => ?_
    rintro ⟨φ, μ, env, s, rs, re, h⟩
    simp only [ev] at h
    rw [evOr] at h
    refine seqv rs re h fun x s1 φ1 μ1 H1 v l1 rs1 re1 rd1 h1 => ?_
    cases q : truth x s1 with
    | none => simp only [q] at h1; exact h1.elim
    | some c =>
      refine ⟨c, truth_ok rs1 rd1 q, ?_⟩
      cases c with
      | true =>
        simp only [q] at h1
        rw [if_pos rfl]
        exact fin_val h1 rs1 rd1
      | false =>
        simp only [q] at h1
        rw [if_neg Bool.false_ne_true]
        exact ⟨φ1, μ1, env, s1, rs1, re1, by simp only [ev]; exact h1⟩
theorem t_and : ∀ {es : Es} {ls : List Expr} {pos : Pos}, (∀ e l, EsHas es e → mtE T .t C e l = true → PT X l (rdT X.K xc o W e)) → mtB T .t C es ls = true → PW X (.BoolOp .And ls pos) (rdT X.K xc o W (.and es))
  | .nil, _, _, _, h => by unfold mtB at h; cases h
  | .cons a .nil, [], _, _, h => by unfold mtB at h; cases h
  | .cons a .nil, l :: m :: ls, _, _, h => by unfold mtB at h; cases h
  | .cons a .nil, [l], pos, ih, h => by
    unfold mtB at h
    refine PW.imp (pw_and1 (ih a l .head h)) fun σ H Q => ?_
    rintro ⟨φ, μ, env, s, rs, re, h⟩
    exact ⟨φ, μ, env, s, rs, re, by rw [tst_and1] at h; exact h⟩
  | .cons a (.cons b r), [], _, _, h => by unfold mtB at h; cases h
  | .cons a (.cons b r), [l], _, _, h => by unfold mtB at h; cases h
  | .cons a (.cons b r), l :: m :: ls, pos, ih, h => by
    unfold mtB at h
    obtain ⟨h1, h2⟩ := and2 h
    have hr := t_and (es := .cons b r) (ls := m :: ls) (pos := pos) (fun e l he hm => ih e l (.tail he) hm) h2
    refine PW.imp (pw_and (ih a l .head h1) hr) fun σ H Q => ?_
    rintro ⟨φ, μ, env, s, rs, re, h⟩
    rw [tst_and] at h
    refine ⟨φ, μ, env, s, rs, re, Fin.bind h fun b s' φ' μ' H' c l rs' e h' => ?_⟩
    cases e
    cases b with
    | true => rw [if_pos rfl] at h' ⊢; exact ⟨φ', μ', env, s', rs', re.up l, h'⟩
    | false => rw [if_neg Bool.false_ne_true] at h' ⊢; exact h'.here rs' rfl
theorem t_or : ∀ {es : Es} {ls : List Expr} {pos : Pos}, (∀ e l, EsHas es e → mtE T .t C e l = true → PT X l (rdT X.K xc o W e)) → mtB T .t C es ls = true → PW X (.BoolOp .Or ls pos) (rdT X.K xc o W (.or es))
  | .nil, _, _, _, h => by unfold mtB at h; cases h
  | .cons a .nil, [], _, _, h => by unfold mtB at h; cases h
  | .cons a .nil, l :: m :: ls, _, _, h => by unfold mtB at h; cases h
  | .cons a .nil, [l], pos, ih, h => by
    unfold mtB at h
    refine PW.imp (pw_or1 (ih a l .head h)) fun σ H Q => ?_
    rintro ⟨φ, μ, env, s, rs, re, h⟩
    exact ⟨φ, μ, env, s, rs, re, by rw [tst_or1] at h; exact h⟩
  | .cons a (.cons b r), [], _, _, h => by unfold mtB at h; cases h
  | .cons a (.cons b r), [l], _, _, h => by unfold mtB at h; cases h
  | .cons a (.cons b r), l :: m :: ls, pos, ih, h => by
    unfold mtB at h
    obtain ⟨h1, h2⟩ := and2 h
    have hr := t_or (es := .cons b r) (ls := m :: ls) (pos := pos) (fun e l he hm => ih e l (.tail he) hm) h2
    refine PW.imp (pw_or (ih a l .head h1) hr) fun σ H Q => ?_
    rintro ⟨φ, μ, env, s, rs, re, h⟩
    rw [tst_or] at h
    refine ⟨φ, μ, env, s, rs, re, Fin.bind h fun b s' φ' μ' H' c l rs' e h' => ?_⟩
    cases e
    cases b with
    | true => rw [if_pos rfl] at h' ⊢; exact h'.here rs' rfl
    | false => rw [if_neg Bool.false_ne_true] at h' ⊢; exact ⟨φ', μ', env, s', rs', re.up l, h'⟩
/-! ### comparisons -/
def cmO : Cm → CmpOp
  | .eq => .Eq | .ne => .NotEq | .lt => .Lt | .le => .LtE | .gt => .Gt | .ge => .GtE | .isN => .Is | .notN => .IsNot
theorem cmIs_eq {c : Cm} {p : CmpOp} (h : cmIs c p = true) : p = cmO c := by
  cases c <;> cases p <;> first | rfl | cases h
theorem cm_behind {c : Cm} {b : Expr} : behindInMarks (cmO c) b = false := by cases c <;> exact nobehind b (by decide) (by decide)
/-- what a comparison wants of the two values -/
def rCm (K : PySem.W.Frag) (c : Cm) : R2 := fun x y H Q => ∃ φ μ dx dy b, RelD K φ μ H dx x ∧ RelD K φ μ H dy y ∧ cmpop c dx dy = some b ∧ Q (.bl b) H
theorem isNon_rel {K : PySem.W.Frag} {φ : Fz} {μ : List Addr} {H : Hp} {d : D} {v : V} (h : RelD K φ μ H d v) : isNon d = decide (v = .non) := by
  cases d with
  | non => cases relD_non h; rfl
  | bl b => cases relD_bl h; rfl
  | int b => cases relD_int h; rfl
  | str b => cases relD_str h; rfl
  | tup b => obtain ⟨a, vs, rfl, _⟩ := relD_tup h; rfl
  | flst b => obtain ⟨a, vs, rfl, _⟩ := relD_flst h; rfl
  | loc b => obtain ⟨a, rfl, _⟩ := relD_loc h; rfl
theorem dec_vint {i j : Int} : decide (V.int i = V.int j) = decide (i = j) := by
  rw [Bool.eq_iff_iff]; simp
theorem dec_vstr {i j : Str} : decide (V.str i = V.str j) = decide (i = j) := by
  rw [Bool.eq_iff_iff]; simp
theorem op_cm (c : Cm) : OpR X (compareOp (cmO c)) (rCm X.K c) := by
  intro pins s σ H x y v u Q I rx ry h
  obtain ⟨φ, μ, dx, dy, b, r1, r2, e, q⟩ := h
  by_cases hn : c = .isN ∨ c = .notN
  · rcases hn with rfl | rfl
    · simp only [cmpop] at e
      by_cases z : isNon dy = true
      · rw [if_pos z] at e
        cases e
        rw [isNon_rel r2] at z
        have z2 : y = .non := of_decide_eq_true z
        exact op_isN pins s σ H x y v u Q I rx ry ⟨z2, by rw [← isNon_rel r1]; exact q⟩
      · rw [if_neg z] at e
        cases e
    · simp only [cmpop] at e
      by_cases z : isNon dy = true
      · rw [if_pos z] at e
        cases e
        rw [isNon_rel r2] at z
        have z2 : y = .non := of_decide_eq_true z
        exact op_notN pins s σ H x y v u Q I rx ry ⟨z2, by rw [← isNon_rel r1]; exact q⟩
      · rw [if_neg z] at e
        cases e
  · cases dx <;> cases dy <;> first | (cases c <;> first | (exact absurd (Or.inl rfl) hn) | (exact absurd (Or.inr rfl) hn) | (simp [cmpop] at e; done)) | skip
    · rename_i i j
      have e1 := relD_int r1
      have e2 := relD_int r2
      subst e1 e2
      cases c <;> first | (exact absurd (Or.inl rfl) hn) | (exact absurd (Or.inr rfl) hn) | skip
      all_goals simp only [cmpop, cmpI, Option.some.injEq] at e
      · exact op_eq pins s σ H _ _ v u Q I rx ry ⟨rfl, by rw [dec_vint, e]; exact q⟩
      · exact op_ne pins s σ H _ _ v u Q I rx ry ⟨rfl, by rw [dec_vint, e]; exact q⟩
      · exact op_lt pins s σ H _ _ v u Q I rx ry ⟨i, j, rfl, rfl, by subst e; exact q⟩
      · exact op_le pins s σ H _ _ v u Q I rx ry ⟨i, j, rfl, rfl, by subst e; exact q⟩
      · exact op_gt pins s σ H _ _ v u Q I rx ry ⟨i, j, rfl, rfl, by subst e; exact q⟩
      · exact op_ge pins s σ H _ _ v u Q I rx ry ⟨i, j, rfl, rfl, by subst e; exact q⟩
    · rename_i i j
      have e1 := relD_str r1
      have e2 := relD_str r2
      subst e1 e2
      cases c <;> first | (exact absurd (Or.inl rfl) hn) | (exact absurd (Or.inr rfl) hn) | (simp [cmpop] at e; done) | skip
      all_goals simp only [cmpop, Option.some.injEq] at e
      · exact op_eq pins s σ H _ _ v u Q I rx ry ⟨rfl, by rw [dec_vstr, e]; exact q⟩
      · exact op_ne pins s σ H _ _ v u Q I rx ry ⟨rfl, by rw [dec_vstr, e]; exact q⟩
end
end Mi

/-! # More rules -/
namespace Mi
open PySem L2
section
variable {T : Tab} {xc : XcT} {o : Orc} {W : WX} {k : Nat} {C : SC} {X : Cx}
/-- what the evaluator's functions wish of parts that are matched -/
abbrev IhE (T : Tab) (xc : XcT) (o : Orc) (W : WX) (C : SC) (X : Cx) (a : E) : Prop := ∀ l, mtE T .v C a l = true → PE X l (rdP X.K xc o W a)
theorem s_cmp {m : Md} {c : Cm} {a b : E} {e : Expr} (ia : IhE T xc o W C X a) (ib : IhE T xc o W C X b) (h : mtE T m C (.cmp c a b) e = true) :
    PE X e (rdP X.K xc o W (.cmp c a b)) ∧ PT X e (rdT X.K xc o W (.cmp c a b)) := by
  simp only [mtE] at h
  split at h <;> first | cases h | skip
  rename_i l p r pos
  obtain ⟨h1, h2, h3⟩ := and3 h
  have e1 := cmIs_eq h1
  subst e1
  have core : ∀ {σ : St} {H : Hp} {φ : Fz} {μ : List Addr} {env : Env} {s : Sto} {γ δ : Type} {rel : Rl γ δ} {f : Bool → Sto → R γ} {Q : δ → Hp → Prop} {Q1 : V → Hp → Prop}, RelS X.K φ μ H s → RelE X.K φ μ H env σ →
      Fin X.K xc W rel φ μ H σ ((ev o a env s).bindv fun x s1 => (ev o b env s1).bindv fun y s2 => (R.ofO (cmpop c x y) s2).bind f) Q →
      (∀ t s' φ' μ' H', RelS X.K φ' μ' H' s' → Fin X.K xc W rel φ' μ' H' σ (f t s') Q → Q1 (.bl t) H') → tOp (rCm X.K c) (rdE X.K xc o W a) (rdE X.K xc o W b) σ H Q1 := fun rs re h fin => by
    refine seqv rs re h fun x s1 φ1 μ1 H1 v l1 rs1 re1 rd1 h1 => seqv rs1 re1 h1 fun y s2 φ2 μ2 H2 u l2 rs2 re2 rd2 h2 => ?_
    cases q : cmpop c x y with
    | none => simp only [q] at h2; exact h2.elim
    | some t =>
      simp only [q, R.ofO_some, R.bind_ok] at h2
      exact ⟨φ2, μ2, x, y, t, rd1.up l2, rd2, q, fin t s2 φ2 μ2 H2 rs2 h2⟩
  constructor
  · refine PE.imp (pe_cmpR (op_cm c) (to_E (ia l h2)) (to_E (ib r h3)) cm_behind) fun σ H Q => ?_
    rintro ⟨φ, μ, env, s, rs, re, h⟩
    simp only [ev] at h
    exact core rs re h fun t s' φ' μ' H' rs' h' => fin_val h' rs' mk_bl
  · refine PT.imp (pt_cmpR (op_cm c) (to_E (ia l h2)) (to_E (ib r h3)) cm_behind) fun σ H Q => ?_
    rintro ⟨φ, μ, env, s, rs, re, h⟩
    have e2 : tst o (.cmp c a b) env s = (ev o a env s).bindv fun x s1 => (ev o b env s1).bindv fun y s2 => (R.ofO (cmpop c x y) s2).bind fun t s3 => .ok t s3 := by
      unfold tst
      simp only [ev, R.bindv]
      cases (ev o a env s).bind lay with
      | no => rfl
      | ex _ _ _ => rfl
      | ok x s1 =>
        simp only [R.bind_ok]
        cases (ev o b env s1).bind lay with
        | no => rfl
        | ex _ _ _ => rfl
        | ok y s2 =>
          simp only [R.bind_ok]
          cases cmpop c x y <;> rfl
    rw [e2] at h
    exact core rs re h fun t s' φ' μ' H' rs' h' => ⟨t, rfl, h'.here rs' rfl⟩
theorem s_chn {m : Md} {c d : Cm} {a b g : E} {e : Expr} (ia : IhE T xc o W C X a) (ib : IhE T xc o W C X b) (ig : IhE T xc o W C X g) (h : mtE T m C (.chn c d a b g) e = true) :
    PE X e (rdP X.K xc o W (.chn c d a b g)) ∧ PT X e (rdT X.K xc o W (.chn c d a b g)) := by
  simp only [mtE] at h
  split at h <;> first | cases h | skip
  rename_i l p1 p2 q r pos
  simp only [Bool.and_eq_true] at h
  obtain ⟨⟨⟨⟨⟨h1, h2⟩, h3⟩, h4⟩, h5⟩, h6⟩ := h
  have e1 := cmIs_eq h1
  have e2 := cmIs_eq h2
  subst e1 e2
  have hm : lastMarks [cmO c, cmO d] [q, r] = false := cm_behind (c := d) (b := r)
  have core : ∀ {σ : St} {H : Hp} {φ : Fz} {μ : List Addr} {env : Env} {s : Sto} {γ δ : Type} {rel : Rl γ δ} {f : Bool → Sto → R γ} {Q : δ → Hp → Prop} {Q1 : V → Hp → Prop}, RelS X.K φ μ H s → RelE X.K φ μ H env σ →
      Fin X.K xc W rel φ μ H σ ((ev o a env s).bindv fun x s1 => (ev o b env s1).bindv fun y s2 => match cmpop c x y with
        | some true => (ev o g env s2).bindv fun z s3 => (R.ofO (cmpop d y z) s3).bind f
        | some false => f false s2
        | none => .no) Q →
      (∀ t s' φ' μ' H', RelS X.K φ' μ' H' s' → Fin X.K xc W rel φ' μ' H' σ (f t s') Q → Q1 (.bl t) H') → tChain (rCm X.K c) (rCm X.K d) (rdE X.K xc o W a) (rdE X.K xc o W b) (rdE X.K xc o W g) σ H Q1 := fun rs re h fin => by
    refine seqv rs re h fun x s1 φ1 μ1 H1 v l1 rs1 re1 rd1 h1 => seqv rs1 re1 h1 fun y s2 φ2 μ2 H2 u l2 rs2 re2 rd2 h2 => ?_
    cases q : cmpop c x y with
    | none => simp only [q] at h2; exact h2.elim
    | some t =>
      refine ⟨φ2, μ2, x, y, t, rd1.up l2, rd2, q, t, rfl, ?_⟩
      cases t with
      | false =>
        simp only [q] at h2
        rw [if_neg Bool.false_ne_true]
        exact fin false s2 φ2 μ2 H2 rs2 h2
      | true =>
        simp only [q] at h2
        rw [if_pos rfl]
        refine seqv rs2 re2 h2 fun z s3 φ3 μ3 H3 w l3 rs3 re3 rd3 h3 => ?_
        cases q2 : cmpop d y z with
        | none => simp only [q2] at h3; exact h3.elim
        | some t =>
          simp only [q2, R.ofO_some, R.bind_ok] at h3
          exact ⟨φ3, μ3, y, z, t, rd2.up l3, rd3, q2, fin t s3 φ3 μ3 H3 rs3 h3⟩
  constructor
  · refine PE.imp (pe_chain (op_cm c) (op_cm d) (to_E (ia l h3)) (to_E (ib q h4)) (to_E (ig r h5)) hm) fun σ H Q => ?_
    rintro ⟨φ, μ, env, s, rs, re, h⟩
    simp only [ev] at h
    exact core rs re h fun t s' φ' μ' H' rs' h' => fin_val h' rs' mk_bl
  · refine PT.imp (pt_chain (op_cm c) (op_cm d) (to_E (ia l h3)) (to_E (ib q h4)) (to_E (ig r h5)) hm) fun σ H Q => ?_
    rintro ⟨φ, μ, env, s, rs, re, h⟩
    have e2 : tst o (.chn c d a b g) env s = (ev o a env s).bindv fun x s1 => (ev o b env s1).bindv fun y s2 => match cmpop c x y with
        | some true => (ev o g env s2).bindv fun z s3 => (R.ofO (cmpop d y z) s3).bind fun t s4 => .ok t s4
        | some false => .ok false s2
        | none => .no := by
      unfold tst
      simp only [ev, R.bindv]
      cases (ev o a env s).bind lay with
      | no => rfl
      | ex _ _ _ => rfl
      | ok x s1 =>
        simp only [R.bind_ok]
        cases (ev o b env s1).bind lay with
        | no => rfl
        | ex _ _ _ => rfl
        | ok y s2 =>
          simp only [R.bind_ok]
          cases cmpop c x y with
          | none => rfl
          | some t =>
            cases t with
            | false => rfl
            | true =>
              simp only []
              cases (ev o g env s2).bind lay with
              | no => rfl
              | ex _ _ _ => rfl
              | ok z s3 =>
                simp only [R.bind_ok]
                cases cmpop d y z <;> rfl
    rw [e2] at h
    exact core rs re h fun t s' φ' μ' H' rs' h' => ⟨t, rfl, h'.here rs' rfl⟩
theorem s_ite {m : Md} {c a b : E} {e : Expr} (ic : ∀ l, mtE T .t C c l = true → PT X l (rdT X.K xc o W c)) (ia : IhE T xc o W C X a) (ib : IhE T xc o W C X b) (h : mtE T m C (.ite c a b) e = true) : PE X e (rdP X.K xc o W (.ite c a b)) := by
  simp only [mtE] at h
  split at h <;> first | cases h | skip
  rename_i q l r pos
  obtain ⟨_, h2, h3, h4⟩ := and4 h
  refine PE.imp (pe_ifExp (ic q h2) (ia l h3) (ib r h4)) fun σ H Q => ?_
  rintro ⟨φ, μ, env, s, rs, re, h⟩
  have e2 : ev o (.ite c a b) env s = (tst o c env s).bind fun t s1 => if t = true then ev o a env s1 else ev o b env s1 := by
    unfold tst
    simp only [ev, R.bindv]
    cases (ev o c env s).bind lay with
    | no => rfl
    | ex _ _ _ => rfl
    | ok x s1 =>
      simp only [R.bind_ok]
      cases truth x s1 with
      | none => rfl
      | some t => cases t <;> rfl
  rw [e2] at h
  refine ⟨φ, μ, env, s, rs, re, Fin.bind h fun t s' φ' μ' H' c l rs' e h' => ?_⟩
  cases e
  cases t with
  | true => rw [if_pos rfl] at h' ⊢; exact ⟨φ', μ', env, s', rs', re.up l, h'⟩
  | false => rw [if_neg Bool.false_ne_true] at h' ⊢; exact ⟨φ', μ', env, s', rs', re.up l, h'⟩
/-! ### several -/
theorem s_es : ∀ {es : Es} {ls : List Expr}, (∀ e, EsHas es e → IhE T xc o W C X e) → mtEs T C es ls = true → PA X ls (rdA X.K xc o W es)
  | .nil, [], _, _ => PA.imp pa_nil fun σ H Q ⟨φ, μ, env, s, rs, re, h⟩ => by
    simp only [evs] at h
    exact h.here rs .nil
  | .nil, _ :: _, _, h => by unfold mtEs at h; cases h
  | .cons e r, [], _, h => by unfold mtEs at h; cases h
  | .cons e r, l :: ls, ih, h => by
    unfold mtEs at h
    obtain ⟨h1, h2, h3⟩ := and3 h
    have hr := s_es (es := r) (ls := ls) (fun e he => ih e (.tail he)) h3
    refine PA.imp (pa_cons (to_E (ih e .head l h1)) hr (star_cons h2)) fun σ H Q => ?_
    rintro ⟨φ, μ, env, s, rs, re, h⟩
    simp only [evs] at h
    refine seqv rs re h fun x s1 φ1 μ1 H1 v l1 rs1 re1 rd1 h1 => ⟨φ1, μ1, env, s1, rs1, re1, Fin.bind h1 fun ds s2 φ2 μ2 H2 vs l2 rs2 rl2 h2 => ?_⟩
    exact h2.here rs2 (.cons (rd1.up l2) rl2)
theorem mtEs_stars : ∀ {es : Es} {ls : List Expr}, mtEs T C es ls = true → noStars ls = true
  | .nil, [], _ => rfl
  | .nil, _ :: _, h => by unfold mtEs at h; cases h
  | .cons e r, [], h => by unfold mtEs at h; cases h
  | .cons e r, l :: ls, h => by
    unfold mtEs at h
    obtain ⟨h1, h2, h3⟩ := and3 h
    show (notStar l && noStars ls) = true
    rw [h2, mtEs_stars h3]
    rfl
theorem le_line {n : Nat} (h : n ≤ sizeMax) : n ≤ sizeLine := by rw [sizeLine_eq]; exact h
theorem line_le {n : Nat} (h : n ≤ sizeLine) : n ≤ sizeMax := by rw [sizeLine_eq] at h; exact h
theorem s_tup {m : Md} {es : Es} {e : Expr} (ih : ∀ e, EsHas es e → IhE T xc o W C X e) (h : mtE T m C (.tup es) e = true) : PE X e (rdP X.K xc o W (.tup es)) := by
  simp only [mtE] at h
  split at h <;> first | cases h | skip
  refine PE.imp (pe_tup (s_es ih h)) fun σ H Q => ?_
  rintro ⟨φ, μ, env, s, rs, re, h⟩
  simp only [ev] at h
  refine ⟨φ, μ, env, s, rs, re, Fin.bind h fun ds s' φ' μ' H' vs l rs' rl h' => ?_⟩
  split at h'
  · rename_i c
    refine ⟨by rw [← rl.length]; exact le_line c, fun p hp => ?_⟩
    exact h' _ _ _ _ (Le.new hp rs'.here) (rs'.beside hp) (mk_tup (SqT.of upd_same) (rl.up (Le.new hp rs'.here)))
  · exact h'.elim
/-- a new list beside the store -/
theorem new_fin {K : PySem.W.Frag} {φ : Fz} {μ : List Addr} {H : Hp} {σ : St} {ds : List D} {s : Sto} {vs : List V} {Q : V → Hp → Prop} (h : Fin K xc W (relP K) φ μ H σ (.ok (.new ds) s) Q) (rs : RelS K φ μ H s) (rl : RelL K φ μ H ds vs) :
    ∀ p, H p = none → Q (.ref p) (upd H p (.lst vs)) := fun p hp => by
  refine h φ μ _ _ (Le.new hp rs.here) (rs.beside hp) ⟨p, vs, rfl, upd_same, fun b z => rs.here (b, p) z hp, fun z => rs.here_mu z hp, rl.up (Le.new hp rs.here)⟩
theorem s_lst {m : Md} {es : Es} {e : Expr} (ih : ∀ e, EsHas es e → IhE T xc o W C X e) (h : mtE T m C (.lst es) e = true) : PE X e (rdP X.K xc o W (.lst es)) := by
  simp only [mtE] at h
  split at h <;> first | cases h | skip
  refine PE.imp (pe_lst (s_es ih h)) fun σ H Q => ?_
  rintro ⟨φ, μ, env, s, rs, re, h⟩
  simp only [ev] at h
  refine ⟨φ, μ, env, s, rs, re, Fin.bind h fun ds s' φ' μ' H' vs l rs' rl h' => ?_⟩
  split at h'
  · rename_i c
    exact ⟨by rw [← rl.length]; exact le_line c, new_fin h' rs' rl⟩
  · exact h'.elim
end
end Mi

/-! # Subscripts, built-ins -/
namespace Mi
open PySem L2
section
variable {T : Tab} {xc : XcT} {o : Orc} {W : WX} {k : Nat} {C : SC} {X : Cx}
theorem IxR.or {r r' : R2} (h : IxR X r) (h' : IxR X r') : IxR X (fun x y H Q => r x y H Q ∨ r' x y H Q) := by
  intro a b pins s σ H x y v u Q I rx ry q
  rcases q with q | q
  · exact h a b pins s σ H x y v u Q I rx ry q
  · exact h' a b pins s σ H x y v u Q I rx ry q
theorem atI_rel {K : PySem.W.Frag} {φ : Fz} {μ : List Addr} {H : Hp} {ds : List D} {vs : List V} {i : Int} {d : D} (r : RelL K φ μ H ds vs) (h : atI ds i = some d) : ∃ v, atI vs i = some v ∧ RelD K φ μ H d v := by
  unfold atI at h ⊢
  rw [← r.length]
  cases q : ixN ds.length i with
  | none => rw [q] at h; cases h
  | some j =>
    rw [q] at h
    exact r.get h
theorem plainIx {b : Expr} (h : notSlice b = true) : PlainIx b := by
  cases b <;> first | (exact fun _ _ => rfl) | cases h
theorem s_idx {m : Md} {a b : E} {e : Expr} (ia : IhE T xc o W C X a) (ib : IhE T xc o W C X b) (h : mtE T m C (.idx a b) e = true) : PE X e (rdP X.K xc o W (.idx a b)) := by
  simp only [mtE] at h
  split at h <;> first | cases h | skip
  obtain ⟨h1, h2, h3⟩ := and3 h
  refine PE.imp (pe_ix (IxR.or ix_list ix_tup) (to_E (ia _ h1)) (to_E (ib _ h2)) (plainIx h3)) fun σ H Q => ?_
  rintro ⟨φ, μ, env, s, rs, re, h⟩
  simp only [ev] at h
  refine seqv rs re h fun x s1 φ1 μ1 H1 v l1 rs1 re1 rd1 h1 => seqv rs1 re1 h1 fun y s2 φ2 μ2 H2 u l2 rs2 re2 rd2 h2 => ?_
  cases q : sq x s2 with
  | none => simp only [q] at h2; exact h2.elim
  | some q1 =>
    cases y <;> first | (simp only [q] at h2; exact h2.elim) | skip
    rename_i i
    simp only [q] at h2
    obtain ⟨d, e, h3⟩ := fin_ofOv h2
    obtain ⟨p, vs, rfl, hq, rl⟩ := sq_rel rs2 (rd1.up l2) q
    obtain ⟨w, e2, rw'⟩ := atI_rel rl e
    have eu := relD_int rd2
    subst eu
    unfold SqA at hq
    split at hq
    · exact .inr ⟨p, vs, i, w, rfl, rfl, hq, e2, fin_val h3 rs2 rw'⟩
    · exact .inl ⟨p, vs, i, w, rfl, rfl, hq, e2, fin_val h3 rs2 rw'⟩
theorem slice_rel {K : PySem.W.Frag} {φ : Fz} {μ : List Addr} {H : Hp} {ds : List D} {vs : List V} {lo hi : Option Int} (r : RelL K φ μ H ds vs) : RelL K φ μ H (slice ds lo hi) (cutV vs lo hi) := by
  unfold slice cutV
  rw [← r.length]
  exact (r.drop _).take _
theorem slice_all {ds : List D} {lo hi : Option Int} (h : HT.sIx ds.length 0 lo = 0 ∧ HT.sIx ds.length ds.length hi = ds.length) : slice ds lo hi = ds := by
  unfold slice
  rw [h.1, h.2]
  simp
/-- a part of a slice -/
def tPt (K : PySem.W.Frag) (xc : XcT) (o : Orc) (W : WX) (e : E) : TO := fun σ H Q => ∃ φ μ env s, RelS K φ μ H s ∧ RelE K φ μ H env σ ∧ Fin K xc W (fun _ _ _ a b => a = b) φ μ H σ ((ev o e env s).bindv fun d s1 => R.ofO (part e d) s1) Q
theorem PO.imp {e : Option Expr} {t t' : TO} (h : PO X e t) (i : ∀ σ H Q, t' σ H Q → t σ H Q) : PO X e t' := ⟨fun pins s σ H Q I q => h.run pins s σ H Q I (i σ H Q q)⟩
theorem part_non {e : E} (h : isNonE e = true) : e = .con .non := by
  cases e <;> first | cases h | skip
  rename_i d
  cases d <;> first | rfl | cases h
theorem po_of {e : E} {p : Option Expr} (ih : IhE T xc o W C X e) (h : (match p with
    | none => isNonE e
    | some p => !isNonE e && mtE T .v C e p) = true) : PO X p (tPt X.K xc o W e) := by
  cases p with
  | none =>
    have e1 := part_non h
    subst e1
    refine PO.imp po_none fun σ H Q => ?_
    rintro ⟨φ, μ, env, s, rs, re, h⟩
    simp only [ev, okv_eq, R.bindv_val, part, isNonE, if_true, R.ofO_some] at h
    exact h.here rs rfl
  | some p =>
    obtain ⟨h1, h2⟩ := and2 h
    refine PO.imp (po_some (to_E (ih p h2))) fun σ H Q => ?_
    rintro ⟨φ, μ, env, s, rs, re, h⟩
    refine seqv rs re h fun d s1 φ1 μ1 H1 v l1 rs1 re1 rd1 h1' => ?_
    obtain ⟨q, e1, h2'⟩ := h1'.ofO
    have hn : isNonE e = false := by simpa using h1
    cases d <;> first | (simp [part, hn] at e1; done) | skip
    rename_i i
    simp only [part, hn, Bool.false_eq_true, if_false, Option.some.injEq] at e1
    subst e1
    exact ⟨i, relD_int rd1, h2'.here rs1 rfl⟩
theorem s_slc {m : Md} {a lo hi : E} {e : Expr} (ia : IhE T xc o W C X a) (il : IhE T xc o W C X lo) (ih : IhE T xc o W C X hi) (h : mtE T m C (.slc a lo hi) e = true) : PE X e (rdP X.K xc o W (.slc a lo hi)) := by
  simp only [mtE] at h
  split at h <;> first | cases h | skip
  obtain ⟨h1, h2, h3⟩ := and3 h
  refine PE.imp (pe_slice (SlR.or sl_list sl_tupA) (to_E (ia _ h1)) (po_of il h2) (po_of ih h3)) fun σ H Q => ?_
  rintro ⟨φ, μ, env, s, rs, re, h⟩
  simp only [ev] at h
  refine seqv rs re h fun x s1 φ1 μ1 H1 v l1 rs1 re1 rd1 h1 => ⟨φ1, μ1, env, s1, rs1, re1, Fin.bind h1 fun l s2 φ2 μ2 H2 l' l2 rs2 e2 h2 => ?_⟩
  subst e2
  refine ⟨φ2, μ2, env, s2, rs2, re1.up l2, Fin.bind h2 fun u s3 φ3 μ3 H3 u' l3 rs3 e3 h3 => ?_⟩
  subst e3
  cases q : sq x s3 with
  | none => simp only [q] at h3; exact h3.elim
  | some q1 =>
    obtain ⟨p, vs, rfl, hq, rl⟩ := sq_rel rs3 ((rd1.up l2).up l3) q
    simp only [q] at h3
    unfold SqA at hq
    split at hq
    · rename_i c
      rw [if_pos c] at h3
      refine .inr ⟨p, vs, rfl, hq, fun w => ?_, fun _ p' hp => ?_⟩
      · rw [← rl.length] at w
        rw [slice_all w] at h3
        exact fin_val h3 rs3 (mk_tup hq rl)
      · exact h3 _ _ _ _ (Le.new hp rs3.here) (rs3.beside hp) (mk_tup (SqT.of upd_same) ((slice_rel rl).up (Le.new hp rs3.here)))
    · rename_i c
      rw [if_neg c] at h3
      exact .inl ⟨p, vs, rfl, hq, new_fin h3 rs3 (slice_rel rl)⟩
/-! ### built-ins -/
/-- one argument -/
theorem pa1 {l : Expr} {t : TE} (h : PE X l t) (hs : notStar l = true) : PA X [l] (tCons t tNil) := pa_cons h pa_nil (star_cons hs)
theorem pa2 {l r : Expr} {t u : TE} (h : PE X l t) (g : PE X r u) (hs : notStar l = true) (gs : notStar r = true) : PA X [l, r] (tCons t (tCons u tNil)) := pa_cons h (pa1 g gs) (star_cons hs)
theorem stars1 {l : Expr} {env : PySem.Env} {pos : Pos} (h : notStar l = true) : (backTo pos (starEach [l] env)).any (·.1) = false := noStars_back (by unfold noStars; simp [h])
theorem kit_tab (t : Ty) : kitB "NoneType" (tyStr t) = some (isTy t .non) ∧ kitB "bool" (tyStr t) = some (isTy t (.bl true)) ∧ kitB "int" (tyStr t) = some (isTy t (.int 0)) ∧ kitB "str" (tyStr t) = some (isTy t (.str ⟨#[]⟩)) ∧
    kitB "tuple" (tyStr t) = some (isTy t (.tup [])) ∧ kitB "list" (tyStr t) = some (isTy t (.flst [])) := by
  cases t <;> decide +kernel
/-- the model's name of a tree's type -/
def tyOfD : D → String
  | .non => "NoneType" | .bl _ => "bool" | .int _ => "int" | .str _ => "str" | .tup _ => "tuple" | .flst _ => "list" | .loc _ => "list"
theorem kit_D (t : Ty) (d : D) : kitB (tyOfD d) (tyStr t) = some (isTy t d) := by
  obtain ⟨h1, h2, h3, h4, h5, h6⟩ := kit_tab t
  cases d
  · exact h1
  · exact h2.trans (by cases t <;> rfl)
  · exact h3.trans (by cases t <;> rfl)
  · exact h4.trans (by cases t <;> rfl)
  · exact h5.trans (by cases t <;> rfl)
  · exact h6.trans (by cases t <;> rfl)
  · exact h6.trans (by cases t <;> rfl)
theorem sqt_ty {K : PySem.W.Frag} {H : Hp} {a : Addr} {vs : List V} (h : SqT K H a vs) : TyX K H (.ref a) (.type "tuple") := by
  rcases h with (h | ⟨x, h⟩) | ⟨ob, its, n, h1, h2, _⟩
  · exact .base (.tup h)
  · exact .fTuple h
  · exact .kTuple h1 h2
theorem sql_ty {K : PySem.W.Frag} {H : Hp} {a : Addr} {vs : List V} (h : SqL K H a vs) : TyX K H (.ref a) (.type "list") := by
  rcases h with (h | ⟨x, h⟩) | ⟨ob, its, n, h1, h2, _⟩
  · exact .base (.lst h)
  · exact .base (.frz h)
  · exact .kList h1 h2
theorem ty_rel {K : PySem.W.Frag} {φ : Fz} {μ : List Addr} {H : Hp} {s : Sto} {d : D} {v : V} (rs : RelS K φ μ H s) (h : RelD K φ μ H d v) : TyX K H v (.type (tyOfD d)) := by
  cases d with
  | non => cases relD_non h; exact .base .non
  | bl b => cases relD_bl h; exact .base (.bl b)
  | int b => cases relD_int h; exact .base (.int b)
  | str b => cases relD_str h; exact .base (.str b)
  | tup b => obtain ⟨a, vs, rfl, h1, _⟩ := relD_tup h; exact sqt_ty h1
  | flst b => obtain ⟨a, vs, rfl, h1, _⟩ := relD_flst h; exact sql_ty h1.sq
  | loc n =>
    obtain ⟨a, rfl, h1⟩ := relD_loc h
    have hn : n < s.length := by rw [← rs.len]; exact (List.getElem?_eq_some_iff.mp h1).1
    cases e : s[n] with
    | lst xs =>
      obtain ⟨vs, e1, _⟩ := rs.cell n (.lst xs) a (by rw [List.getElem?_eq_getElem hn, e]) h1
      exact .base (.lst e1)
theorem blt_names : bootBuiltins "int" = some (.type "int") ∧ bootBuiltins "abs" = some (.builtin "abs") ∧ bootBuiltins "len" = some (.builtin "len") ∧ bootBuiltins "repr" = some (.builtin "repr") ∧ bootBuiltins "isinstance" = some (.builtin "isinstance") ∧
    bootBuiltins "min" = some (.builtin "min") ∧ bootBuiltins "max" = some (.builtin "max") ∧ bootBuiltins "all" = some (.builtin "all") ∧ bootBuiltins "any" = some (.builtin "any") ∧ bootBuiltins "sum" = some (.builtin "sum") ∧ bootBuiltins "tuple" = some (.type "tuple") ∧ bootBuiltins "list" = some (.type "list") ∧
    bootBuiltins "bool" = some (.type "bool") ∧ bootBuiltins "str" = some (.type "str") := by
  refine ⟨?_, ?_, ?_, ?_, ?_, ?_, ?_, ?_, ?_, ?_, ?_, ?_, ?_, ?_⟩ <;> decide +kernel
theorem ty_boot (t : Ty) : bootBuiltins (tyName t) = some (.type (tyStr t)) := by
  obtain ⟨h1, h2, h3, h4, h5, h6, h7, h8, h9, h10, h11, h12, h13, h14⟩ := blt_names
  cases t
  · exact h1
  · exact h13
  · exact h14
  · exact h11
  · exact h12
theorem ty_plain (t : Ty) : tyName t ≠ "__name__" ∧ (tyName t == ("__debug__" : Str)) = false := by
  cases t <;> exact ⟨by decide +kernel, by decide +kernel⟩
end
end Mi

/-! # Built-ins, calls -/
namespace Mi
open PySem L2
section
variable {T : Tab} {xc : XcT} {o : Orc} {W : WX} {k : Nat} {C : SC} {X : Cx}
/-! ### repr -/
theorem optAll_get {α : Type} : ∀ {l : List (Option α)} {r : List α}, optAll l = some r → l = r.map some
  | [], r, h => by cases h; rfl
  | some a :: l, r, h => by
    simp only [optAll, Option.map_eq_some_iff] at h
    obtain ⟨q, h1, h2⟩ := h
    subst h2
    rw [List.map_cons, optAll_get h1]
  | none :: l, r, h => by cases h
/-- a tree is read off the heap -/
theorem reads_of {φ : Fz} {μ : List Addr} {H : Hp} {st : Sto} {pins : List (Addr × Obj)} {σ : St} {s : Shared} (I : L2.Inv X pins σ H s) (rs : RelS X.K φ μ H st) : ∀ (n : Nat) (d : D) (v : V) (u : Value) (p : PyData), RelD X.K φ μ H d v → RelV v u → toPy st n d = some p →
    ∃ as, PySem.Reads s.heap u p as ∧ p.depth ≤ n ∧ p.hasDict = false := by
  intro n
  have many : ∀ n, (∀ (d : D) (v : V) (u : Value) (p : PyData), RelD X.K φ μ H d v → RelV v u → toPy st n d = some p → ∃ as, PySem.Reads s.heap u p as ∧ p.depth ≤ n ∧ p.hasDict = false) →
      ∀ (ds : List D) (vs : List V) (us : List Value) (ps : List PyData), RelL X.K φ μ H ds vs → Vals vs us → ds.map (toPy st n) = ps.map some → ∃ as, PySem.ReadsAll s.heap us ps as ∧ PyData.depthAll ps ≤ n ∧ PyData.hasDictAll ps = false := by
    intro n ih ds
    induction ds with
    | nil =>
      intro vs us ps r rv e
      rw [r.of_nil] at rv
      cases rv
      have : ps = [] := by simpa using e.symm
      subst this
      exact ⟨[], .nil, Nat.zero_le _, by unfold PyData.hasDictAll; rfl⟩
    | cons d ds ih2 =>
      intro vs us ps r rv e
      obtain ⟨v, vr, rfl, r1, r2⟩ := r.of_cons
      cases rv with
      | cons q qs =>
        cases ps with
        | nil => simp at e
        | cons p ps =>
          rw [List.map_cons, List.map_cons] at e
          injection e with e1 e2
          obtain ⟨as, h1, h2, h3⟩ := ih d v _ p r1 q e1
          obtain ⟨bs, h4, h5, h6⟩ := ih2 vr _ ps r2 qs e2
          exact ⟨as ++ bs, .cons h1 h4, by unfold PyData.depthAll; exact Nat.max_le.mpr ⟨h2, h5⟩, by unfold PyData.hasDictAll; rw [h3, h6]; rfl⟩
  induction n with
  | zero =>
    intro d v u p rd rv h
    cases d <;> first | (simp [toPy] at h; done) | skip
    · cases relD_non rd; cases rv; cases h; exact ⟨_, .none, Nat.le_refl _, by unfold PyData.hasDict; rfl⟩
    · cases relD_bl rd; cases rv; cases h; exact ⟨_, .bool _, Nat.le_refl _, by unfold PyData.hasDict; rfl⟩
    · cases relD_int rd; obtain ⟨t, rfl⟩ := rv; cases h; exact ⟨_, .int _ _, Nat.le_refl _, by unfold PyData.hasDict; rfl⟩
    · cases relD_str rd; obtain ⟨t, rfl⟩ := rv; cases h; exact ⟨_, .str _ _, Nat.le_refl _, by unfold PyData.hasDict; rfl⟩
  | succ n ih =>
    intro d v u p rd rv h
    have lists : ∀ (a : Addr) (vs : List V) (xs : List D), v = .ref a → SqL X.K H a vs → RelL X.K φ μ H xs vs → (optAll (xs.map (toPy st n))).map PyData.list = some p → ∃ as, PySem.Reads s.heap u p as ∧ p.depth ≤ n + 1 ∧ p.hasDict = false := fun a vs xs e h1 h2 h => by
      subst e
      cases rv
      obtain ⟨ps, e1, e2⟩ := Option.map_eq_some_iff.mp h
      subst e2
      obtain ⟨its, rv, ⟨ob, c, g1, g2, g3, g4⟩, _⟩ := I.list h1
      obtain ⟨as, q1, q2, q3⟩ := many n ih xs vs its ps h2 rv (optAll_get e1)
      exact ⟨_, .list g1 g2 g4 (by simpa using q1), by unfold PyData.depth; omega, by unfold PyData.hasDict; exact q3⟩
    cases d with
    | non => cases relD_non rd; cases rv; cases h; exact ⟨_, .none, Nat.zero_le _, by unfold PyData.hasDict; rfl⟩
    | bl b => cases relD_bl rd; cases rv; cases h; exact ⟨_, .bool _, Nat.zero_le _, by unfold PyData.hasDict; rfl⟩
    | int b => cases relD_int rd; obtain ⟨t, rfl⟩ := rv; cases h; exact ⟨_, .int _ _, Nat.zero_le _, by unfold PyData.hasDict; rfl⟩
    | str b => cases relD_str rd; obtain ⟨t, rfl⟩ := rv; cases h; exact ⟨_, .str _ _, Nat.zero_le _, by unfold PyData.hasDict; rfl⟩
    | tup xs =>
      obtain ⟨a, vs, rfl, h1, h2⟩ := relD_tup rd
      cases rv
      simp only [toPy] at h
      obtain ⟨ps, e1, e2⟩ := Option.map_eq_some_iff.mp h
      subst e2
      obtain ⟨its, rv, ⟨ob, g1, g2, c, g3⟩, _⟩ := I.tuple h1
      obtain ⟨as, q1, q2, q3⟩ := many n ih xs vs its ps h2 rv (optAll_get e1)
      exact ⟨as, .tuple g1 g2 g3 (by simpa using q1), by unfold PyData.depth; omega, by unfold PyData.hasDict; exact q3⟩
    | flst xs =>
      obtain ⟨a, vs, e, h1, h2⟩ := relD_flst rd
      exact lists a vs xs e h1.sq h2 h
    | loc i =>
      obtain ⟨a, e, h1⟩ := relD_loc rd
      simp only [toPy] at h
      cases q : st[i]? with
      | none => rw [q] at h; cases h
      | some c =>
        rw [q] at h
        cases c with
        | lst xs =>
          obtain ⟨vs, e1, e2⟩ := rs.cell i _ a q h1
          exact lists a vs xs e (SqL.of e1) e2 h
def rRepr (K : PySem.W.Frag) : List V → Hp → VK → Prop := fun xs H Q => ∃ φ μ st d p v, xs = [v] ∧ RelS K φ μ H st ∧ RelD K φ μ H d v ∧ toPy st 60 d = some p ∧ p.showable = true ∧ p.shown.length ≤ sizeMax ∧ Q (.str p.shown) H
theorem call_reprD (hg : X.A.guards = some []) (hu : X.A.units + 64 < cLine) : CallR X (.builtin "repr") (rRepr X.K) := by
  intro pins s σ H xs us Q I r h
  obtain ⟨φ, μ, st, d, p, v, rfl, rs, rd, ht, hs, hz, q⟩ := h
  obtain ⟨u, rfl, rv⟩ := vals1 r
  have hz' : p.shown.length ≤ sizeLine := le_line hz
  have refs : ∀ a, v = .ref a → wpAny (model X.prog X.w) X.A (call (.builtin "repr") [u]) (EP X pins σ Q) X.xe s := fun a e => by
    obtain ⟨as, q1, q2, q3⟩ := reads_of I rs 60 d v u p rd rv ht
    subst e
    cases rv
    exact repr_of_reads' q1 hs (fun z => by rw [q3] at z; cases z) hg (by omega) (fun _ _ z => z) (fun h' u tk hk => ⟨.str p.shown, H, I.kept hk, ⟨_, rfl⟩, q⟩) hz'
  cases d with
  | non =>
    cases relD_non rd; cases rv; cases ht
    exact PySem.P.repr_of_none ⟨.str _, H, I.tok _, ⟨_, rfl⟩, q⟩
  | bl b =>
    cases relD_bl rd; cases rv; cases ht
    exact PySem.P.repr_of_bool ⟨.str _, H, I.tok _, ⟨_, rfl⟩, q⟩
  | int b =>
    cases relD_int rd; obtain ⟨t, rfl⟩ := rv; cases ht
    exact PySem.P.repr_of_int (of_decide_eq_true hs) ⟨.str _, H, I.tok _, ⟨_, rfl⟩, q⟩
  | str b =>
    cases relD_str rd; obtain ⟨t, rfl⟩ := rv; cases ht
    exact PySem.P.repr_of_str ⟨.str _, H, I.tok _, ⟨_, rfl⟩, q⟩ hz'
  | tup xs => obtain ⟨a, vs, e, _⟩ := relD_tup rd; exact refs a e
  | flst xs => obtain ⟨a, vs, e, _⟩ := relD_flst rd; exact refs a e
  | loc n => obtain ⟨a, e, _⟩ := relD_loc rd; exact refs a e
/-! ### built-ins of one value -/
/-- what a built-in gives of a tree -/
def rB1 (K : PySem.W.Frag) (f : B1) : List V → Hp → VK → Prop := fun xs H Q => ∃ φ μ st d r v, xs = [v] ∧ RelS K φ μ H st ∧ RelD K φ μ H d v ∧ b1 f d st = some r ∧ ∀ u, RelD K φ μ H r u → Q u H
theorem call_b1i : CallR X (.type "int") (rB1 X.K .int) := by
  intro pins s σ H xs us Q I r h
  obtain ⟨φ, μ, st, d, y, v, rfl, rs, rd, e, q⟩ := h
  cases d <;> first | (simp [b1] at e; done) | skip
  · rename_i b
    cases relD_bl rd
    cases e
    exact call_int1 pins s σ H _ us Q I r (.inr ⟨b, rfl, q _ mk_int⟩)
  · rename_i i
    cases relD_int rd
    cases e
    exact call_int1 pins s σ H _ us Q I r (.inl ⟨i, rfl, q _ mk_int⟩)
theorem call_b1a : CallR X (.builtin "abs") (rB1 X.K .abs) := by
  intro pins s σ H xs us Q I r h
  obtain ⟨φ, μ, st, d, y, v, rfl, rs, rd, e, q⟩ := h
  cases d <;> first | (simp [b1] at e; done) | skip
  rename_i i
  cases relD_int rd
  cases e
  exact call_abs pins s σ H _ us Q I r ⟨i, rfl, q _ mk_int⟩
theorem call_b1l : CallR X (.builtin "len") (rB1 X.K .len) := by
  intro pins s σ H xs us Q I r h
  obtain ⟨φ, μ, st, d, y, v, rfl, rs, rd, e, q⟩ := h
  have e' : (sq d st).map (fun q => D.int q.2.length) = some y := by cases d <;> exact e
  obtain ⟨z, e1, e2⟩ := Option.map_eq_some_iff.mp e'
  subst e2
  obtain ⟨a, vs, rfl, h1, h2⟩ := sq_rel rs rd e1
  have q' := q _ mk_int
  rw [h2.length] at q'
  unfold SqA at h1
  split at h1
  · exact call_len_seq pins s σ H _ us Q I r ⟨a, vs, rfl, .inr h1, q'⟩
  · exact call_len_seq pins s σ H _ us Q I r ⟨a, vs, rfl, .inl h1, q'⟩
theorem call_b1r (hg : X.A.guards = some []) (hu : X.A.units + 64 < cLine) : CallR X (.builtin "repr") (rB1 X.K .repr) := by
  intro pins s σ H xs us Q I r h
  obtain ⟨φ, μ, st, d, y, v, rfl, rs, rd, e, q⟩ := h
  simp only [b1] at e
  split at e
  · rename_i p hp
    split at e
    · rename_i c
      cases e
      obtain ⟨c1, c2⟩ := and2 c
      exact call_reprD hg hu pins s σ H _ us Q I r ⟨φ, μ, st, d, p, v, rfl, rs, rd, hp, c1, of_decide_eq_true c2, q _ mk_str⟩
    · cases e
  · cases e
def rIsiB (K : PySem.W.Frag) (t : Ty) : List V → Hp → VK → Prop := fun xs H Q => ∃ φ μ st d v, xs = [v, .ty (tyStr t)] ∧ RelS K φ μ H st ∧ RelD K φ μ H d v ∧ Q (.bl (isTy t d)) H
theorem call_b1t (t : Ty) : CallR X (.builtin "isinstance") (rIsiB X.K t) := by
  intro pins s σ H xs us Q I r h
  obtain ⟨φ, μ, st, d, v, rfl, rs, rd, q⟩ := h
  exact call_isi pins s σ H _ us Q I r ⟨v, .ty (tyStr t), .type (tyOfD d), .type (tyStr t), isTy t d, rfl, .ty _, ty_rel rs rd, kit_ty (kit_D t d), q⟩
theorem room_units (r : Room k X.A) : X.A.units + 64 < cLine := r.units
theorem b1_core {f : B1} {a : E} {r : List V → Hp → VK → Prop} {e : Expr} (h : PE X e (tCB r (tCons (rdE X.K xc o W a) tNil))) (hr : ∀ xs H Q, rB1 X.K f xs H Q → r xs H Q) : PE X e (rdP X.K xc o W (.b1 f a)) := by
  refine PE.imp h fun σ H Q => ?_
  rintro ⟨φ, μ, env, s, rs, re, h⟩
  simp only [ev] at h
  refine seqv rs re h fun x s1 φ1 μ1 H1 v l1 rs1 re1 rd1 h1 => hr _ _ _ ?_
  obtain ⟨y, e, h2⟩ := fin_ofOv h1
  exact ⟨φ1, μ1, s1, x, y, v, rfl, rs1, rd1, e, fun u ru => fin_val h2 rs1 ru⟩
theorem s_b1 {m : Md} {f : B1} {a : E} {e : Expr} (G : Good T xc o W k C X) (ia : IhE T xc o W C X a) (h : mtE T m C (.b1 f a) e = true) : PE X e (rdP X.K xc o W (.b1 f a)) := by
  simp only [mtE] at h
  split at h <;> first | cases h | skip
  rename_i x p l ls pos
  obtain ⟨h1, h2, h3, h4⟩ := and4 h
  obtain ⟨e1, g1, g2⟩ := blt_ok G h1
  obtain ⟨b1', b2', b3, b4, b5, b6, b7, b8, b9, b10, b11, b12, b13, b14⟩ := blt_names
  have st := star_cons (es := ls) (env := X.env) h3
  cases f with
  | isi t =>
    cases ls <;> first | cases h4 | skip
    rename_i m2 ls2
    cases m2 <;> first | cases h4 | skip
    rename_i z zp
    cases ls2 <;> first | cases h4 | skip
    obtain ⟨e3, g3, g4⟩ := blt_ok G h4
    subst e1 e3
    have hp := ty_plain t
    have pt : PE X (.Name (tyName t) zp) (tC (.ty (tyStr t))) := pe_bltn g3 g4 (ty_boot t) rfl hp.1 hp.2
    refine PE.imp (pe_callB (call_b1t t) g1 g2 b5 (pa_cons (to_E (ia l h2)) (pa_cons pt pa_nil) st) (show ¬ ("isinstance" : Str) = "__name__" by decide +kernel) (show (("isinstance" : Str) == ("__debug__" : Str)) = false by decide +kernel) st (noStars_back rfl)) fun σ H Q => ?_
    rintro ⟨φ, μ, env, s, rs, re, h⟩
    simp only [ev] at h
    refine seqv rs re h fun x s1 φ1 μ1 H1 v l1 rs1 re1 rd1 h1 => ?_
    exact ⟨φ1, μ1, s1, x, v, rfl, rs1, rd1, fin_val h1 rs1 mk_bl⟩
  | int =>
    cases ls <;> first | cases h4 | skip
    subst e1
    exact b1_core (pe_callTy call_b1i g1 g2 b1' (pa1 (to_E (ia l h2)) h3) (by decide +kernel) (by decide +kernel) st rfl) fun _ _ _ z => z
  | abs =>
    cases ls <;> first | cases h4 | skip
    subst e1
    exact b1_core (pe_callB call_b1a g1 g2 b2' (pa1 (to_E (ia l h2)) h3) (by decide +kernel) (by decide +kernel) st rfl) fun _ _ _ z => z
  | len =>
    cases ls <;> first | cases h4 | skip
    subst e1
    exact b1_core (pe_callB call_b1l g1 g2 b3 (pa1 (to_E (ia l h2)) h3) (by decide +kernel) (by decide +kernel) st rfl) fun _ _ _ z => z
  | repr =>
    cases ls <;> first | cases h4 | skip
    subst e1
    exact b1_core (pe_callB (call_b1r G.guards (room_units G.room)) g1 g2 b4 (pa1 (to_E (ia l h2)) h3) (by decide +kernel) (by decide +kernel) st rfl) fun _ _ _ z => z
theorem s_b2 {m : Md} {f : B2} {a b : E} {e : Expr} (G : Good T xc o W k C X) (ia : IhE T xc o W C X a) (ib : IhE T xc o W C X b) (h : mtE T m C (.b2 f a b) e = true) : PE X e (rdP X.K xc o W (.b2 f a b)) := by
  simp only [mtE] at h
  split at h <;> first | cases h | skip
  rename_i x p l r pos
  simp only [Bool.and_eq_true] at h
  obtain ⟨⟨⟨⟨h1, h2⟩, h3⟩, h4⟩, h5⟩ := h
  obtain ⟨e1, g1, g2⟩ := blt_ok G h1
  obtain ⟨b1', b2', b3, b4, b5, b6, b7, b8, b9, b10, b11, b12, b13, b14⟩ := blt_names
  have st := star_cons (es := [r]) (env := X.env) h4
  have pa := pa2 (to_E (ia l h2)) (to_E (ib r h3)) h4 h5
  have core : ∀ {q : List V → Hp → VK → Prop} {e : Expr}, (∀ i j z H Q, b2 f (.int i) (.int j) = some z → (∀ u φ μ H', RelD X.K φ μ H' z u → u = u) → (∀ u, (∃ n, z = .int n ∧ u = V.int n) → Q u H) → q [.int i, .int j] H Q) → PE X e (tCB q (tCons (rdE X.K xc o W a) (tCons (rdE X.K xc o W b) tNil))) → PE X e (rdP X.K xc o W (.b2 f a b)) := fun {q e} hq h => by
    refine PE.imp h fun σ H Q => ?_
    rintro ⟨φ, μ, env, s, rs, re, h⟩
    simp only [ev] at h
    refine seqv rs re h fun x s1 φ1 μ1 H1 v l1 rs1 re1 rd1 h1 => seqv rs1 re1 h1 fun y s2 φ2 μ2 H2 u l2 rs2 re2 rd2 h2 => ?_
    obtain ⟨z, e, h3⟩ := fin_ofOv h2
    cases x <;> first | (cases f <;> simp [b2] at e; done) | skip
    rename_i i
    cases y <;> first | (cases f <;> simp [b2] at e; done) | skip
    rename_i j
    cases relD_int (rd1.up l2)
    cases relD_int rd2
    refine hq i j z H2 Q e (fun _ _ _ _ _ => rfl) fun u ⟨n, e1, e2⟩ => ?_
    subst e1 e2
    exact fin_val h3 rs2 mk_int
  cases f with
  | min =>
    subst e1
    exact core (fun i j z H Q e _ hz => ⟨i, j, rfl, hz _ ⟨_, (Option.some.inj e).symm, rfl⟩⟩) (pe_callB (call_min2 G.calm) g1 g2 b6 pa (by decide +kernel) (by decide +kernel) st (stars1 h5))
  | max =>
    subst e1
    exact core (fun i j z H Q e _ hz => ⟨i, j, rfl, hz _ ⟨_, (Option.some.inj e).symm, rfl⟩⟩) (pe_callB (call_max2 G.calm) g1 g2 b7 pa (by decide +kernel) (by decide +kernel) st (stars1 h5))
/-! ### built-ins of a sequence -/
def rBq (K : PySem.W.Frag) (f : Bq) : List V → Hp → VK → Prop := fun xs H Q => ∃ φ μ st q r v, xs = [v] ∧ RelS K φ μ H st ∧ relQ K φ μ H q v ∧ bq f q.1 q.2 = some r ∧ ∀ φ' μ' H' u, Le K φ μ H φ' μ' H' → RelS K φ' μ' H' st → RelD K φ' μ' H' r u → Q u H'
theorem bools_rel {K : PySem.W.Frag} {φ : Fz} {μ : List Addr} {H : Hp} : ∀ {ds : List D} {vs : List V} {bs : List Bool}, RelL K φ μ H ds vs → boolsOf ds = some bs → vs = bs.map V.bl
  | [], _, _, r, h => by rw [r.of_nil]; cases h; rfl
  | d :: ds, _, _, r, h => by
    obtain ⟨v, q, rfl, r1, r2⟩ := r.of_cons
    cases d <;> first | (simp [boolsOf] at h; done) | skip
    simp only [boolsOf, Option.map_eq_some_iff] at h
    obtain ⟨bs, h1, rfl⟩ := h
    rw [relD_bl r1, bools_rel r2 h1]
    rfl
theorem ints_rel {K : PySem.W.Frag} {φ : Fz} {μ : List Addr} {H : Hp} : ∀ {ds : List D} {vs : List V} {bs : List Int}, RelL K φ μ H ds vs → intsOf ds = some bs → vs = bs.map V.int
  | [], _, _, r, h => by rw [r.of_nil]; cases h; rfl
  | d :: ds, _, _, r, h => by
    obtain ⟨v, q, rfl, r1, r2⟩ := r.of_cons
    cases d <;> first | (simp [intsOf] at h; done) | skip
    simp only [intsOf, Option.map_eq_some_iff] at h
    obtain ⟨bs, h1, rfl⟩ := h
    rw [relD_int r1, ints_rel r2 h1]
    rfl
theorem foldl_max : ∀ (l : List Int) (x : Int), x ≤ l.foldl (fun a b => if a < b then b else a) x ∧ (∀ y ∈ l, y ≤ l.foldl (fun a b => if a < b then b else a) x) ∧ (l.foldl (fun a b => if a < b then b else a) x = x ∨ l.foldl (fun a b => if a < b then b else a) x ∈ l)
  | [], x => ⟨Int.le_refl _, fun _ h => (by cases h), .inl rfl⟩
  | y :: l, x => by
    obtain ⟨h1, h2, h3⟩ := foldl_max l (if x < y then y else x)
    have h0 : x ≤ (if x < y then y else x) ∧ y ≤ (if x < y then y else x) ∧ ((if x < y then y else x) = x ∨ (if x < y then y else x) = y) := by split <;> omega
    rw [List.foldl_cons]
    generalize (if x < y then y else x) = w at h0 h1 h2 h3 ⊢
    refine ⟨Int.le_trans h0.1 h1, fun z hz => ?_, ?_⟩
    · rcases List.mem_cons.mp hz with rfl | hz
      · exact Int.le_trans h0.2.1 h1
      · exact h2 z hz
    · rcases h3 with h3 | h3
      · rw [h3]
        rcases h0.2.2 with e | e
        · exact .inl e
        · rw [e]; exact .inr List.mem_cons_self
      · exact .inr (List.mem_cons_of_mem _ h3)
theorem foldl_min : ∀ (l : List Int) (x : Int), l.foldl (fun a b => if b < a then b else a) x ≤ x ∧ (∀ y ∈ l, l.foldl (fun a b => if b < a then b else a) x ≤ y) ∧ (l.foldl (fun a b => if b < a then b else a) x = x ∨ l.foldl (fun a b => if b < a then b else a) x ∈ l)
  | [], x => ⟨Int.le_refl _, fun _ h => (by cases h), .inl rfl⟩
  | y :: l, x => by
    obtain ⟨h1, h2, h3⟩ := foldl_min l (if y < x then y else x)
    have h0 : (if y < x then y else x) ≤ x ∧ (if y < x then y else x) ≤ y ∧ ((if y < x then y else x) = x ∨ (if y < x then y else x) = y) := by split <;> omega
    rw [List.foldl_cons]
    generalize (if y < x then y else x) = w at h0 h1 h2 h3 ⊢
    refine ⟨Int.le_trans h1 h0.1, fun z hz => ?_, ?_⟩
    · rcases List.mem_cons.mp hz with rfl | hz
      · exact Int.le_trans h1 h0.2.1
      · exact h2 z hz
    · rcases h3 with h3 | h3
      · rw [h3]
        rcases h0.2.2 with e | e
        · exact .inl e
        · rw [e]; exact .inr List.mem_cons_self
      · exact .inr (List.mem_cons_of_mem _ h3)
theorem maxI_is {l : List Int} {m n : Int} (h : maxI l = some n) (h1 : m ∈ l) (h2 : ∀ y, y ∈ l → y ≤ m) : m = n := by
  cases l with
  | nil => cases h1
  | cons x r =>
    simp only [maxI, Option.some.injEq] at h
    obtain ⟨a, b, c⟩ := foldl_max r x
    rw [h] at a b c
    have k1 : n ∈ x :: r := by
      rcases c with c | c
      · rw [c]; exact List.mem_cons_self
      · exact List.mem_cons_of_mem _ c
    have k2 := h2 n k1
    rcases List.mem_cons.mp h1 with rfl | h1
    · omega
    · have := b m h1
      omega
theorem minI_is {l : List Int} {m n : Int} (h : minI l = some n) (h1 : m ∈ l) (h2 : ∀ y, y ∈ l → m ≤ y) : m = n := by
  cases l with
  | nil => cases h1
  | cons x r =>
    simp only [minI, Option.some.injEq] at h
    obtain ⟨a, b, c⟩ := foldl_min r x
    rw [h] at a b c
    have k1 : n ∈ x :: r := by
      rcases c with c | c
      · rw [c]; exact List.mem_cons_self
      · exact List.mem_cons_of_mem _ c
    have k2 := h2 n k1
    rcases List.mem_cons.mp h1 with rfl | h1
    · omega
    · have := b m h1
      omega
/-- sum, max, min, all, any: of a list -/
theorem bq_list {f : Bq} {id : String} {q : List V → Hp → VK → Prop} (hc : CallR X (.builtin id) q)
    (hq : ∀ (φ : Fz) (μ : List Addr) (ds : List D) (vs : List V) (r : D) (H : Hp) (a : Addr) (Q : VK), SqL X.K H a vs → RelL X.K φ μ H ds vs → bq f false ds = some r → (∀ u, RelD X.K φ μ H r u → Q u H) → q [.ref a] H Q)
    (ht : ∀ ds, bq f true ds = none) : CallR X (.builtin id) (rBq X.K f) := by
  intro pins s σ H xs us Q I r h
  obtain ⟨φ, μ, st, ⟨t, ds⟩, y, v, rfl, rs, ⟨a, vs, rfl, hs, rl⟩, e, hQ⟩ := h
  cases t with
  | true => rw [ht] at e; cases e
  | false => exact hc pins s σ H _ us Q I r (hq φ μ ds vs y H a Q hs rl e fun u ru => hQ φ μ H u Le.refl rs ru)
theorem call_all (hc : X.calm = true) : CallR X (.builtin "all") (rBq X.K .all) := bq_list (cr_all hc) (fun φ μ ds vs r H a Q hs rl e q => by
  simp only [bq, Bool.false_eq_true, if_false, Option.map_eq_some_iff] at e
  obtain ⟨bs, e1, rfl⟩ := e
  have := bools_rel rl e1
  subst this
  exact ⟨a, bs, rfl, hs, q _ mk_bl⟩) fun ds => rfl
theorem call_any (hc : X.calm = true) : CallR X (.builtin "any") (rBq X.K .any) := bq_list (cr_any hc) (fun φ μ ds vs r H a Q hs rl e q => by
  simp only [bq, Bool.false_eq_true, if_false, Option.map_eq_some_iff] at e
  obtain ⟨bs, e1, rfl⟩ := e
  have := bools_rel rl e1
  subst this
  exact ⟨a, bs, rfl, hs, q _ mk_bl⟩) fun ds => rfl
theorem call_sum (hc : X.calm = true) : CallR X (.builtin "sum") (rBq X.K .sum) := bq_list (cr_sum hc) (fun φ μ ds vs r H a Q hs rl e q => by
  simp only [bq, Bool.false_eq_true, if_false, Option.map_eq_some_iff] at e
  obtain ⟨bs, e1, rfl⟩ := e
  have := ints_rel rl e1
  subst this
  exact ⟨a, bs, rfl, hs, q _ mk_int⟩) fun ds => rfl
theorem call_maxq (hc : X.calm = true) : CallR X (.builtin "max") (rBq X.K .max) := bq_list (cr_max hc) (fun φ μ ds vs r H a Q hs rl e q => by
  simp only [bq, Bool.false_eq_true, if_false, Option.bind_eq_some_iff, Option.map_eq_some_iff] at e
  obtain ⟨bs, e1, n, e2, rfl⟩ := e
  have := ints_rel rl e1
  subst this
  refine ⟨a, bs, rfl, hs, ?_, fun m h1 h2 => ?_⟩
  · cases bs with
    | nil => cases e2
    | cons _ _ => exact Nat.succ_pos _
  · rw [maxI_is e2 h1 h2]
    exact q _ mk_int) fun ds => rfl
theorem call_minq (hc : X.calm = true) : CallR X (.builtin "min") (rBq X.K .min) := bq_list (cr_min hc) (fun φ μ ds vs r H a Q hs rl e q => by
  simp only [bq, Bool.false_eq_true, if_false, Option.bind_eq_some_iff, Option.map_eq_some_iff] at e
  obtain ⟨bs, e1, n, e2, rfl⟩ := e
  have := ints_rel rl e1
  subst this
  refine ⟨a, bs, rfl, hs, ?_, fun m h1 h2 => ?_⟩
  · cases bs with
    | nil => cases e2
    | cons _ _ => exact Nat.succ_pos _
  · rw [minI_is e2 h1 h2]
    exact q _ mk_int) fun ds => rfl
theorem call_tupq : CallR X (.type "tuple") (rBq X.K .tuple) := by
  intro pins s σ H xs us Q I r h
  obtain ⟨φ, μ, st, ⟨t, ds⟩, y, v, rfl, rs, ⟨a, vs, rfl, hs, rl⟩, e, hQ⟩ := h
  cases e
  cases t with
  | true => exact call_tuple_of pins s σ H _ us Q I r ⟨a, vs, rfl, .inr ⟨hs, hQ φ μ H _ Le.refl rs (mk_tup hs rl)⟩⟩
  | false => exact call_tuple_of pins s σ H _ us Q I r ⟨a, vs, rfl, .inl ⟨hs, fun p hp => hQ φ μ _ _ (Le.new hp rs.here) (rs.beside hp) (mk_tup (SqT.of upd_same) (rl.up (Le.new hp rs.here)))⟩⟩
end
end Mi

/-! # Sequences, calls of functions, comprehensions -/
namespace Mi
open PySem L2
section
variable {T : Tab} {xc : XcT} {o : Orc} {W : WX} {k : Nat} {C : SC} {X : Cx}
theorem seqq {K : PySem.W.Frag} {e : E} {σ : St} {H : Hp} {φ : Fz} {μ : List Addr} {env : Env} {s : Sto} {γ δ : Type} {rel2 : Rl γ δ} {f : Bool × List D → Sto → R γ} {Q : δ → Hp → Prop} {Q1 : V → Hp → Prop} (rs : RelS K φ μ H s) (re : RelE K φ μ H env σ)
    (h : Fin K xc W rel2 φ μ H σ ((ev o e env s).bindq f) Q)
    (k : ∀ q s' φ' μ' H' v, Le K φ μ H φ' μ' H' → RelS K φ' μ' H' s' → RelE K φ' μ' H' env σ → relQ K φ' μ' H' q v → Fin K xc W rel2 φ' μ' H' σ (f q s') Q → Q1 v H') : rdQ K xc o W e σ H Q1 := by
  refine ⟨φ, μ, env, s, rs, re, ?_⟩
  unfold R.bindq at h ⊢
  refine Fin.bind (r := (ev o e env s).bind fun p s => (R.ofO (sqP p s) s).bind fun q s1 => .ok q s1) (rel2 := rel2) (f := f) ?_ fun q s' φ' μ' H' v l rs' rl h' => k q s' φ' μ' H' v l rs' (re.up l) rl h'
  revert h
  generalize ev o e env s = r
  intro h
  cases r with
  | no => exact h
  | ex c d s' => exact h
  | ok p s' =>
    simp only [R.bind_ok] at h ⊢
    cases q : sqP p s' with
    | none => rw [q] at h; exact h
    | some y => rw [q] at h; exact h
theorem bq_core {f : Bq} {a : E} {e : Expr} (hf : f ≠ .list) (h : PE X e (tCB (rBq X.K f) (tCons (rdQ X.K xc o W a) tNil))) : PE X e (rdP X.K xc o W (.bq f a)) := by
  refine PE.imp h fun σ H Q => ?_
  rintro ⟨φ, μ, env, s, rs, re, h⟩
  simp only [ev] at h
  refine seqq rs re h fun q s1 φ1 μ1 H1 v l1 rs1 re1 rq h1 => ?_
  have h2 : Fin X.K xc W (relP X.K) φ1 μ1 H1 σ (ofOv (bq f q.1 q.2) s1) Q := by
    cases f <;> first | exact h1 | exact absurd rfl hf
  obtain ⟨y, e, h3⟩ := fin_ofOv h2
  exact ⟨φ1, μ1, s1, q, y, v, rfl, rs1, rq, e, fun φ' μ' H' u l' rs' ru => h3 φ' μ' H' u l' rs' ru⟩
theorem s_bq {m : Md} {f : Bq} {a : E} {e : Expr} (G : Good T xc o W k C X) (ia : IhE T xc o W C X a) (h : mtE T m C (.bq f a) e = true) : PE X e (rdP X.K xc o W (.bq f a)) := by
  simp only [mtE] at h
  split at h <;> first | cases h | skip
  rename_i x p l pos
  obtain ⟨h1, h2, h3⟩ := and3 h
  obtain ⟨e1, g1, g2⟩ := blt_ok G h1
  obtain ⟨b1', b2', b3, b4, b5, b6, b7, b8, b9, b10, b11, b12, b13, b14⟩ := blt_names
  have st := star_cons (es := []) (env := X.env) h3
  have pa := pa1 (to_Q (ia l h2)) h3
  subst e1
  cases f with
  | all => exact bq_core (fun z => nomatch z) (pe_callB (call_all G.calm) g1 g2 b8 pa (by decide +kernel) (by decide +kernel) st rfl)
  | any => exact bq_core (fun z => nomatch z) (pe_callB (call_any G.calm) g1 g2 b9 pa (by decide +kernel) (by decide +kernel) st rfl)
  | sum => exact bq_core (fun z => nomatch z) (pe_callB (call_sum G.calm) g1 g2 b10 pa (by decide +kernel) (by decide +kernel) st rfl)
  | max => exact bq_core (fun z => nomatch z) (pe_callB (call_maxq G.calm) g1 g2 b7 pa (by decide +kernel) (by decide +kernel) st rfl)
  | min => exact bq_core (fun z => nomatch z) (pe_callB (call_minq G.calm) g1 g2 b6 pa (by decide +kernel) (by decide +kernel) st rfl)
  | tuple => exact bq_core (fun z => nomatch z) (pe_callTy call_tupq g1 g2 b11 pa (by decide +kernel) (by decide +kernel) st rfl)
  | list =>
    refine PE.imp (pe_callTy call_list_of g1 g2 b12 pa (by decide +kernel) (by decide +kernel) st rfl) fun σ H Q => ?_
    rintro ⟨φ, μ, env, s, rs, re, h⟩
    simp only [ev] at h
    refine seqq rs re h fun q s1 φ1 μ1 H1 v l1 rs1 re1 rq h1 => ?_
    obtain ⟨a, vs, rfl, hs, rl⟩ := rq
    refine ⟨a, vs, rfl, ?_, new_fin h1 rs1 rl⟩
    unfold SqA at hs
    split at hs
    · exact .inr hs
    · exact .inl hs
/-! ### calls of functions -/
/-- a function of the table, called: what it promises is asked of the arguments -/
theorem pe_fnG {f : Addr} {fd : PySem.FuncData} {ps : List Str} {sp : Sp} {x : Str} {p pos : Pos} {l : Expr} {ls : List Expr} {t : TA} (F : FnG X.prog X.w X.K X.mg X.base k f fd ps sp) (hr : Room k X.A) (hgd : X.A.guards = some []) (tk : Takes X W)
    (hg : Gl X x) (hm : X.mg x = some (.ref f)) (hk : PySem.W.keepIn X.K (.ref f) = true) (hb : Binds X.K fd ps []) (ha : PA X (l :: ls) t) (hx : (x == ("__debug__" : Str)) = false) (h1 : notStar l = true) (h2 : noStars ls = true) :
    PE X (.Call (.Name x p) (l :: ls) [] pos) (fun σ H Q => t σ H fun vs H1 => sp vs H1 Q fun c d H2 => W c d σ H2) := by
  constructor
  intro pins s σ H Q I h
  refine wpAny_Call_Name_kw (ld_glob I hg hm ?_ hx)
  refine PySem.W.callWith_K (h₀ := X.base) I.ok.mod.kin hk (thn (ha.run pos pins s σ H _ I h) ?_) (star_cons h1) (noStars_back h2)
  rintro us s1 ⟨vs, H1, I1, r, q⟩
  refine ⟨I1.kIn, wpAny_call (codeAny_mono (F.run X.A X.stack s1 H1 ⟨us, []⟩ us vs Q _ hgd hr I1.env0 ?_ r q) ?_)⟩
  · have hl : (us ++ []).length = ps.length := by
      rw [List.append_nil, ← r.length]
      exact F.len _ _ _ _ q
    have := hb s1 us I1.kIn hl
    rw [List.append_nil] at this
    exact this
  · intro rr s' hq
    cases rr with
    | error e => exact tk e s' (XE.of_call I1 (fun _ _ _ z => z) hq)
    | ok fl =>
      cases fl with
      | ret u => exact I1.after hq
      | next => exact hq.elim
      | brk => exact hq.elim
      | cont => exact hq.elim
theorem pe_fnG0 {f : Addr} {fd : PySem.FuncData} {ps : List Str} {sp : Sp} {x : Str} {p pos : Pos} (F : FnG X.prog X.w X.K X.mg X.base k f fd ps sp) (hr : Room k X.A) (hgd : X.A.guards = some []) (tk : Takes X W)
    (hg : Gl X x) (hm : X.mg x = some (.ref f)) (hk : PySem.W.keepIn X.K (.ref f) = true) (hb : Binds X.K fd ps []) (hx : (x == ("__debug__" : Str)) = false) :
    PE X (.Call (.Name x p) [] [] pos) (fun σ H Q => sp [] H Q fun c d H2 => W c d σ H2) := by
  constructor
  intro pins s σ H Q I q
  refine wpAny_Call_Name_kw (ld_glob I hg hm ?_ hx)
  refine PySem.W.callWith_K0 I.kIn hk (wpAny_call (codeAny_mono (F.run X.A X.stack s H ⟨[], []⟩ [] [] Q _ hgd hr I.env0 ?_ .nil q) ?_))
  · have hl : (([] : List Value) ++ []).length = ps.length := F.len _ _ _ _ q
    exact hb s [] I.kIn hl
  · intro rr s' hq
    cases rr with
    | error e => exact tk e s' (XE.of_call I (fun _ _ _ z => z) hq)
    | ok fl =>
      cases fl with
      | ret u => exact I.after hq
      | next => exact hq.elim
      | brk => exact hq.elim
      | cont => exact hq.elim
/-- a function's end, in the expression -/
theorem fin_fn {K : PySem.W.Frag} {φ : Fz} {μ : List Addr} {H : Hp} {σ : St} {r : R D} {Q : V → Hp → Prop} (h : Fin K xc W (relP K) φ μ H σ (r.bind fun d s2 => okv d s2) Q) : Fin K xc (fun c d _ H' => W c d σ H') (RelD K) φ μ H [] r Q := by
  cases r with
  | no => exact h
  | ex c d s => exact h
  | ok d s => exact h
theorem s_fn {m : Md} {f : Nat} {es : Es} {e : Expr} (G : Good T xc o W k C X) (ih : ∀ e, EsHas es e → IhE T xc o W C X e) (h : mtE T m C (.fn f es) e = true) : PE X e (rdP X.K xc o W (.fn f es)) := by
  simp only [mtE] at h
  split at h <;> first | cases h | skip
  rename_i x p ls pos
  obtain ⟨h1, h2, h3, h4⟩ := and4 h
  obtain ⟨fa, fd, ps, g1, g2, g3, _, g4⟩ := G.call f x (of_decide_eq_true h1)
  have hgl : Gl X x := by
    show X.env.scope.names.lookup x = some .globalImplicit
    rw [G.sc]
    exact of_decide_eq_true h2
  have hx := (plain_dbg h3).1
  have fin : ∀ σ H Q, rdP X.K xc o W (.fn f es) σ H Q → rdA X.K xc o W es σ H fun vs H1 => spF X.K xc o f vs H1 Q fun c d H2 => W c d σ H2 := by
    rintro σ H Q ⟨φ, μ, env, s, rs, re, h⟩
    simp only [ev] at h
    exact ⟨φ, μ, env, s, rs, re, Fin.bind h fun ds s1 φ1 μ1 H1 vs l1 rs1 rl h1 => ⟨φ1, μ1, s1, ds, rs1, rl, fin_fn h1⟩⟩
  cases es with
  | nil =>
    cases ls with
    | cons _ _ => unfold mtEs at h4; cases h4
    | nil =>
      refine PE.imp (pe_fnG0 g4 G.room G.guards G.takes hgl g1 g2 g3 hx) fun σ H Q q => ?_
      obtain ⟨φ, μ, env, s, rs, re, h⟩ := fin σ H Q q
      simp only [evs] at h
      exact h.here rs .nil
  | cons a r =>
    cases ls with
    | nil => unfold mtEs at h4; cases h4
    | cons l ls =>
      have hs := mtEs_stars h4
      obtain ⟨hs1, hs2⟩ := and2 (show (notStar l && noStars ls) = true from hs)
      exact PE.imp (pe_fnG g4 G.room G.guards G.takes hgl g1 g2 g3 (s_es ih h4) hx hs1 hs2) fin
/-! ### calls by keywords -/
theorem RelL.perm {K : PySem.W.Frag} {φ : Fz} {μ : List Addr} {H : Hp} {ds : List D} {vs : List V} (r : RelL K φ μ H ds vs) : ∀ {p : List Nat} {ds' : List D}, permOf ds p = some ds' → ∃ vs', permOf vs p = some vs' ∧ RelL K φ μ H ds' vs'
  | [], _, h => by cases h; exact ⟨[], rfl, .nil⟩
  | i :: p, ds', h => by
    unfold permOf at h
    cases q1 : ds[i]? with
    | none => rw [q1] at h; cases h
    | some d =>
      cases q2 : permOf ds p with
      | none => rw [q1, q2] at h; cases h
      | some l =>
        rw [q1, q2] at h
        cases h
        obtain ⟨v, e1, r1⟩ := r.get q1
        obtain ⟨vs', e2, r2⟩ := r.perm q2
        exact ⟨v :: vs', by unfold permOf; rw [e1, e2], .cons r1 r2⟩
theorem vals_perm {vs : List V} {us : List Value} (r : Vals vs us) : ∀ {p : List Nat} {vs' : List V}, permOf vs p = some vs' → ∃ us', permOf us p = some us' ∧ Vals vs' us'
  | [], _, h => by cases h; exact ⟨[], rfl, .nil⟩
  | i :: p, vs', h => by
    unfold permOf at h
    cases q1 : vs[i]? with
    | none => rw [q1] at h; cases h
    | some d =>
      cases q2 : permOf vs p with
      | none => rw [q1, q2] at h; cases h
      | some l =>
        rw [q1, q2] at h
        cases h
        obtain ⟨u, e1, r1⟩ := r.get q1
        obtain ⟨us', e2, r2⟩ := vals_perm r q2
        exact ⟨u :: us', by unfold permOf; rw [e1, e2], .cons r1 r2⟩
theorem s_ks : ∀ {es : Es} {ns : List Str} {ls : List Keyword}, (∀ e, EsHas es e → IhE T xc o W C X e) → mtKs T C es ns ls = true → PK X ls (rdA X.K xc o W es) ∧ es.len = ns.length
  | .nil, [], [], _, _ => ⟨⟨fun pos pins s σ H Q I ⟨φ, μ, env, s0, rs, re, h⟩ => pk_nil.run pos pins s σ H Q I (by simp only [evs] at h; exact h.here rs .nil)⟩, rfl⟩
  | .nil, [], _ :: _, _, h => by unfold mtKs at h; cases h
  | .nil, _ :: _, _, _, h => by unfold mtKs at h; cases h
  | .cons _ _, [], _, _, h => by unfold mtKs at h; cases h
  | .cons _ _, _ :: _, [], _, h => by unfold mtKs at h; cases h
  | .cons _ _, _ :: _, ⟨none, _, _⟩ :: _, _, h => by unfold mtKs at h; cases h
  | .cons a r, n :: ns, ⟨some m, l, p⟩ :: ls, ih, h => by
    unfold mtKs at h
    obtain ⟨h1, h2, h3⟩ := and3 h
    obtain ⟨k1, k2⟩ := s_ks (fun e he => ih e (.tail he)) h3
    refine ⟨⟨fun pos pins s σ H Q I ⟨φ, μ, env, s0, rs, re, h⟩ => (pk_cons (to_E (ih a .head l h2)) k1).run pos pins s σ H Q I ?_⟩, by unfold Es.len; rw [k2]; rfl⟩
    simp only [evs] at h
    refine seqv rs re h fun d s1 φ1 μ1 H1 v l1 rs1 re1 rd1 h1 => ?_
    exact ⟨φ1, μ1, env, s1, rs1, re1, Fin.bind h1 fun ds s2 φ2 μ2 H2 vs l2 rs2 rl h2 => h2.here rs2 (.cons (rd1.up l2) rl)⟩
theorem ks_names {pos : Pos} {env : PySem.Env} : ∀ {es : Es} {ns : List Str} {ls : List Keyword}, mtKs T C es ns ls = true → (backToKw pos (keywordEach ls env)).all (·.1.isSome) = true ∧ (backToKw pos (keywordEach ls env)).filterMap (·.1) = ns ∧ (backToKw pos (keywordEach ls env)).any (·.1.isNone) = false
  | .nil, [], [], _ => ⟨rfl, rfl, rfl⟩
  | .nil, [], _ :: _, h => by unfold mtKs at h; cases h
  | .nil, _ :: _, _, h => by unfold mtKs at h; cases h
  | .cons _ _, [], _, h => by unfold mtKs at h; cases h
  | .cons _ _, _ :: _, [], h => by unfold mtKs at h; cases h
  | .cons _ _, _ :: _, ⟨none, _, _⟩ :: _, h => by unfold mtKs at h; cases h
  | .cons a r, n :: ns, ⟨some m, l, p⟩ :: ls, h => by
    unfold mtKs at h
    obtain ⟨h1, h2, h3⟩ := and3 h
    obtain ⟨k1, k2, k3⟩ := ks_names (pos := pos) (env := env) h3
    have e := of_decide_eq_true h1
    subst e
    unfold backToKw at k1 k2 k3 ⊢
    simp only [keywordEach, List.map_cons, List.all_cons, List.any_cons, List.filterMap_cons, k1, k2, k3, Option.isSome_some, Option.isNone_some, Bool.and_self, Bool.or_self, and_self]
theorem pe_fnK {f : Addr} {fd : PySem.FuncData} {ps : List Str} {sp : Sp} {x : Str} {p pos : Pos} {kw : Keyword} {kws : List Keyword} {q : List Str × List Nat} {t : TA} (F : FnG X.prog X.w X.K X.mg X.base k f fd ps sp) (hr : Room k X.A) (hgd : X.A.guards = some []) (tk : Takes X W)
    (hg : Gl X x) (hm : X.mg x = some (.ref f)) (hk : PySem.W.keepIn X.K (.ref f) = true) (hb : KB X.K fd ps q) (ha : PK X (kw :: kws) t) (hx : (x == ("__debug__" : Str)) = false)
    (n1 : (backToKw pos (keywordEach (kw :: kws) X.env)).all (·.1.isSome) = true) (n2 : (backToKw pos (keywordEach (kw :: kws) X.env)).filterMap (·.1) = q.1) (n3 : (backToKw pos (keywordEach (kw :: kws) X.env)).any (·.1.isNone) = false) :
    PE X (.Call (.Name x p) [] (kw :: kws) pos) (fun σ H Q => t σ H fun vs H1 => vs.length = q.1.length ∧ ∃ zs, permOf vs q.2 = some zs ∧ sp zs H1 Q fun c d H2 => W c d σ H2) := by
  constructor
  intro pins s σ H Q I h
  refine wpAny_Call_Name_kw (ld_glob I hg hm ?_ hx)
  refine PySem.W.callWith_KW0 (h₀ := X.base) I.ok.mod.kin hk n1 (thn (ha.run pos pins s σ H _ I h) ?_) (by rw [n3]; rfl)
  rintro us s1 ⟨vs, H1, I1, r, hl, zs, hz, qq⟩
  refine ⟨I1.kIn, ?_⟩
  rw [n2]
  obtain ⟨ws, e1, r1⟩ := vals_perm r hz
  refine wpAny_call (codeAny_mono (F.run X.A X.stack s1 H1 ⟨[], q.1.zip us⟩ ws zs Q _ hgd hr I1.env0 (hb s1 us ws I1.kIn (by rw [← r.length]; exact hl) e1) r1 qq) ?_)
  intro rr s' hq
  cases rr with
  | error e => exact tk e s' (XE.of_call I1 (fun _ _ _ z => z) hq)
  | ok fl =>
    cases fl with
    | ret u => exact I1.after hq
    | next => exact hq.elim
    | brk => exact hq.elim
    | cont => exact hq.elim
theorem s_fnk {m : Md} {f : Nat} {es : Es} {ns : List Str} {pm : List Nat} {e : Expr} (G : Good T xc o W k C X) (ih : ∀ e, EsHas es e → IhE T xc o W C X e) (h : mtE T m C (.fnk f es ns pm) e = true) : PE X e (rdP X.K xc o W (.fnk f es ns pm)) := by
  simp only [mtE] at h
  split at h <;> first | cases h | skip
  rename_i x p kw kws pos
  simp only [Bool.and_eq_true] at h
  obtain ⟨⟨⟨⟨h1, h2⟩, h3⟩, h4⟩, h5⟩ := h
  obtain ⟨fa, fd, ps, g1, g2, g3, gk, g4⟩ := G.call f x (of_decide_eq_true h1)
  have hgl : Gl X x := by
    show X.env.scope.names.lookup x = some .globalImplicit
    rw [G.sc]
    exact of_decide_eq_true h2
  obtain ⟨k1, k2⟩ := s_ks (X := X) (xc := xc) (o := o) (W := W) ih h5
  obtain ⟨n1, n2, n3⟩ := ks_names (pos := pos) (env := X.env) h5
  refine PE.imp (pe_fnK (q := (ns, pm)) g4 G.room G.guards G.takes hgl g1 g2 (gk _ (of_decide_eq_true h4)) k1 (plain_dbg h3).1 n1 n2 n3) ?_
  rintro σ H Q ⟨φ, μ, env, s, rs, re, h⟩
  simp only [ev] at h
  have hlen := evs_len o es env s
  refine ⟨φ, μ, env, s, rs, re, ?_⟩
  revert h hlen
  generalize evs o es env s = r
  intro h hlen
  cases r with
  | no => exact h.elim
  | ex c d s' => exact h
  | ok ds s1 =>
    have hd := hlen ds s1 rfl
    simp only [Mi.R.bind_ok] at h
    intro φ1 μ1 H1 vs l1 rs1 rl
    cases q : permOf ds pm with
    | none => rw [q] at h; exact h.elim
    | some ds' =>
      rw [q] at h
      simp only [R.ofO_some, Mi.R.bind_ok] at h
      obtain ⟨zs, e1, r1⟩ := rl.perm q
      refine ⟨by rw [← rl.length, hd]; exact k2, zs, e1, ?_⟩
      exact ⟨φ1, μ1, s1, ds', rs1, r1, fin_fn (Fin.up l1 h)⟩
/-! ### what a loop goes along -/
/-- the walk of an iterator, by the tree -/
def relI (K : PySem.W.Frag) : Rl Src It := fun φ μ H src J => match src with
  | .fix ds => ∀ (i : Nat) φ' μ' H', Le K φ μ H φ' μ' H' → (∀ d, ds[i]? = some d → J.go i H') ∧
      (∀ d x H'' s, ds[i]? = some d → RelS K φ' μ' H' s → J.yld i H' x H'' → Le K φ' μ' H' φ' μ' H'' ∧ RelS K φ' μ' H'' s ∧ RelD K φ' μ' H'' d x) ∧ (ds.length ≤ i → J.stop i H')
  | .at_ n _ => ∃ a, μ[n]? = some a ∧ J = Itl K a
def rdI (K : PySem.W.Frag) (xc : XcT) (o : Orc) (W : WX) (e : E) : TI := fun σ H R => ∃ φ μ env s, RelS K φ μ H s ∧ RelE K φ μ H env σ ∧ Fin K xc W (relI K) φ μ H σ (evi o e env s) R
theorem PI.imp {tg e : Expr} {t t' : TI} (h : PI X tg e t) (i : ∀ σ H R, t' σ H R → t σ H R) : PI X tg e t' := ⟨fun pins s σ H R I q => h.run pins s σ H R I (i σ H R q)⟩
theorem PI.or {tg e : Expr} {t t' : TI} (h : PI X tg e t) (h' : PI X tg e t') : PI X tg e (fun σ H R => t σ H R ∨ t' σ H R) := ⟨fun pins s σ H R I q => q.elim (h.run pins s σ H R I) (h'.run pins s σ H R I)⟩
/-- a list that stays, walked -/
theorem relI_list {K : PySem.W.Frag} {φ : Fz} {μ : List Addr} {H : Hp} {a : Addr} {vs : List V} {ds : List D} (h : FzL K φ H a vs) (r : RelL K φ μ H ds vs) : relI K φ μ H (.fix ds) (Itl K a) := by
  intro i φ' μ' H' l
  have h' := (h.up l).sq
  have r' := r.up l
  refine ⟨fun d e => ?_, fun d x H'' s e rs y => ?_, fun hi => ⟨vs, h', by rw [← r.length]; exact hi⟩⟩
  · obtain ⟨v, e1, _⟩ := r'.get e
    exact ⟨vs, v, h', e1⟩
  · obtain ⟨e0, e1⟩ := y
    subst e0
    obtain ⟨v, e2, rd⟩ := r'.get e
    have := e1 vs h'
    rw [e2] at this
    cases this
    exact ⟨Le.refl, rs, rd⟩
theorem relI_tup {K : PySem.W.Frag} {φ : Fz} {μ : List Addr} {H : Hp} {a : Addr} {vs : List V} {ds : List D} (h : SqT K H a vs) (r : RelL K φ μ H ds vs) : relI K φ μ H (.fix ds) (Itt K a) := by
  intro i φ' μ' H' l
  have h' := l.tup a vs h
  have r' := r.up l
  refine ⟨fun d e => ?_, fun d x H'' s e rs y => ?_, fun hi => ⟨vs, h', by rw [← r.length]; exact hi⟩⟩
  · obtain ⟨v, e1, _⟩ := r'.get e
    exact ⟨vs, v, h', e1⟩
  · obtain ⟨e0, e1⟩ := y
    subst e0
    obtain ⟨v, e2, rd⟩ := r'.get e
    have := e1 vs h'
    rw [e2] at this
    cases this
    exact ⟨Le.refl, rs, rd⟩
/-- a new list is set aside -/
theorem RelS.aside {K : PySem.W.Frag} {φ : Fz} {μ : List Addr} {H : Hp} {s : Sto} {a : Addr} (t : Bool) (rs : RelS K φ μ H s) (h : H a ≠ none) (n1 : ∀ b, (b, a) ∉ φ) (n2 : a ∉ μ) : RelS K ((t, a) :: φ) μ H s ∧ Le K φ μ H ((t, a) :: φ) μ H := by
  have l : Le K φ μ H ((t, a) :: φ) μ H := ⟨fun x hx => List.mem_cons_of_mem _ hx, List.prefix_refl _, fun _ _ z => z, fun _ _ _ z => z, fun _ _ => rfl⟩
  refine ⟨⟨rs.nd, rs.len, fun n c b e1 e2 => (rs.cell n c b e1 e2).up_but l rfl, fun b hb => ?_, fun b hb => ?_, fun b hb hc => ?_⟩, l⟩
  · rcases List.mem_cons.mp hb with rfl | hb
    · exact n2
    · exact rs.apart b hb
  · rcases List.mem_cons.mp hb with rfl | hb
    · exact h
    · exact rs.here b hb
  · rcases List.mem_cons.mp hb with e | hb'
    · rcases List.mem_cons.mp hc with e2 | hc'
      · rw [← e2] at e; cases e
      · cases e; exact n1 _ hc'
    · rcases List.mem_cons.mp hc with e2 | hc'
      · cases e2; exact n1 _ hb'
      · exact rs.one b hb' hc'
theorem rel_val_src {K : PySem.W.Frag} {φ : Fz} {μ : List Addr} {H : Hp} {s : Sto} {d : D} {v : V} {src : Src} (rs : RelS K φ μ H s) (rd : RelD K φ μ H d v) (h : srcP (.val d) s = some src) :
    (∃ xs a vs, d = .tup xs ∧ src = .fix xs ∧ v = .ref a ∧ SqT K H a vs ∧ RelL K φ μ H xs vs) ∨ (∃ a vs, v = .ref a ∧ (∀ xs, d ≠ .tup xs) ∧ SqL K H a vs ∧ relI K φ μ H src (Itl K a)) := by
  cases d <;> first | (simp [srcP] at h; done) | skip
  · rename_i xs
    cases h
    obtain ⟨a, vs, e, h1, h2⟩ := relD_tup rd
    exact .inl ⟨xs, a, vs, rfl, rfl, e, h1, h2⟩
  · rename_i xs
    cases h
    obtain ⟨a, vs, e, h1, h2⟩ := relD_flst rd
    exact .inr ⟨a, vs, e, (fun _ z => nomatch z), h1.sq, relI_list h1 h2⟩
  · rename_i n
    obtain ⟨a, e, h1⟩ := relD_loc rd
    simp only [srcP] at h
    cases z : s[n]? with
    | none => rw [z] at h; cases h
    | some c =>
      rw [z] at h
      cases c with
      | lst xs =>
        cases h
        obtain ⟨vs, e1, e2⟩ := rs.cell n _ a z h1
        exact .inr ⟨a, vs, e, (fun _ z => nomatch z), SqL.of e1, ⟨a, h1, rfl⟩⟩
/-- a value's items, gone along -/
theorem pi_val {tg e' : Expr} {e : E} (h : PE X e' (rdP X.K xc o W e)) : PI X tg e' (rdI X.K xc o W e) := by
  refine PI.imp (PI.or (pi_list h) (pi_tup h)) fun σ H S => ?_
  rintro ⟨φ, μ, env, s, rs, re, h⟩
  by_cases ht : ∃ xs s', ev o e env s = .ok (.val (.tup xs)) s'
  · obtain ⟨xs, s', et⟩ := ht
    refine .inr ⟨φ, μ, env, s, rs, re, ?_⟩
    unfold evi at h
    rw [et] at h ⊢
    intro φ' μ' H' v l rs' rd
    obtain ⟨a, vs, e1, h1, h2⟩ := relD_tup rd
    exact ⟨a, e1, ⟨vs, h1⟩, h φ' μ' H' _ l rs' (relI_tup h1 h2)⟩
  · refine .inl ⟨φ, μ, env, s, rs, re, ?_⟩
    unfold evi at h
    revert h ht
    generalize ev o e env s = r
    intro h ht
    cases r with
    | no => exact h
    | ex c d s' => exact h
    | ok p s' =>
      intro φ' μ' H' v l rs' rl
      simp only [R.bind_ok] at h
      obtain ⟨src, e1, h'⟩ := h.ofO
      cases p with
      | rg xs => exact rl.elim
      | new xs =>
        cases e1
        obtain ⟨a, vs, e2, h1, n1, n2, r⟩ := rl
        have q := rs'.aside (a := a) true (by rw [h1]; intro z; cases z) n1 n2
        refine ⟨a, e2, ⟨vs, SqL.of h1⟩, h' ((true, a) :: φ') μ' H' _ (l.trans q.2) q.1 ?_⟩
        exact relI_list (.inl ⟨List.mem_cons_self, h1⟩) (r.up q.2)
      | val d =>
        rcases rel_val_src rs' rl e1 with ⟨xs, a, vs, e2, _⟩ | ⟨a, vs, e2, _, h1, h2⟩
        · exact absurd ⟨xs, s', by rw [e2]⟩ ht
        · exact ⟨a, e2, ⟨vs, h1⟩, h' φ' μ' H' _ l rs' h2⟩
/-- a range -/
theorem relI_range {K : PySem.W.Frag} {φ : Fz} {μ : List Addr} {H : Hp} {lo : Int} {n : Nat} {xs : List D} (hx : xs = (List.range n).map fun (k : Nat) => D.int (lo + (k : Int))) : relI K φ μ H (.fix xs) (Itr lo n) := by
  subst hx
  intro i φ' μ' H' l
  refine ⟨fun d e => ?_, fun d x H'' s e rs y => ?_, fun hi => ?_⟩
  · rw [List.getElem?_map] at e
    by_cases hi : i < n
    · exact hi
    · rw [List.getElem?_eq_none (by simpa using hi)] at e; cases e
  · obtain ⟨e0, e1⟩ := y
    subst e0 e1
    rw [List.getElem?_map] at e
    by_cases hi : i < n
    · rw [List.getElem?_range hi] at e
      cases e
      exact ⟨Le.refl, rs, mk_int⟩
    · rw [List.getElem?_eq_none (by simpa using hi)] at e; cases e
  · have : n ≤ i := by simpa using hi
    exact this
theorem rangeOf_cases {ds xs : List D} (h : rangeOf ds = some xs) : (∃ n : Int, ds = [.int n] ∧ n < 2 ^ 62 ∧ -(2 ^ 62) ≤ n ∧ xs = (List.range n.toNat).map fun (k : Nat) => D.int (k : Int)) ∨
    (∃ a n : Int, ds = [.int a, .int n] ∧ n < 2 ^ 62 ∧ -(2 ^ 62) ≤ n ∧ a < 2 ^ 62 ∧ -(2 ^ 62) ≤ a ∧ xs = (List.range (n - a).toNat).map fun (k : Nat) => D.int (a + (k : Int))) := by
  unfold rangeOf at h
  split at h
  · rename_i n
    split at h
    · rename_i c
      cases h
      exact .inl ⟨n, rfl, c.1, c.2, rfl⟩
    · cases h
  · rename_i a n
    split at h
    · rename_i c
      cases h
      exact .inr ⟨a, n, rfl, c.1, c.2.1, c.2.2.1, c.2.2.2, rfl⟩
    · cases h
  · cases h
theorem mtEs_len : ∀ {es : Es} {ls : List Expr}, mtEs T C es ls = true → ls.length = es.len
  | .nil, [], _ => rfl
  | .nil, _ :: _, h => by unfold mtEs at h; cases h
  | .cons e r, [], h => by unfold mtEs at h; cases h
  | .cons e r, l :: ls, h => by
    unfold mtEs at h
    obtain ⟨h1, h2, h3⟩ := and3 h
    rw [List.length_cons, mtEs_len h3]
    rfl
theorem pi_rng {tg e : Expr} {es : Es} (G : Good T xc o W k C X) (ih : ∀ e, EsHas es e → IhE T xc o W C X e) (h : mtE T .i C (.rng es) e = true) : PI X tg e (rdI X.K xc o W (.rng es)) := by
  simp only [mtE] at h
  split at h <;> first | cases h | skip
  rename_i x p ls pos
  obtain ⟨h0, h2, h3⟩ := and3 h
  have h01 := (of_decide_eq_true h0).2
  obtain ⟨e1, g1, g2⟩ := blt_ok G h2
  subst e1
  have pa := s_es ih h3
  have ev_eq : ∀ env s, evi o (.rng es) env s = (evs o es env s).bind fun ds s1 => (R.ofO (rangeOf ds) s1).bind fun xs s2 => .ok (.fix xs) s2 := fun env s => by
    unfold evi
    simp only [ev]
    generalize evs o es env s = r
    cases r with
    | no => rfl
    | ex c d s' => rfl
    | ok ds s' =>
      simp only [R.bind_ok]
      cases rangeOf ds <;> rfl
  have hl := mtEs_len h3
  have hs := mtEs_stars h3
  -- what is told of the arguments
  have fin : ∀ (σ : St) (H : Hp) (S : It → Hp → Prop), rdI X.K xc o W (.rng es) σ H S → rdA X.K xc o W es σ H fun vs H1 => (∃ n : Int, ls.length = 1 ∧ vs = [.int n] ∧ -(2 ^ 62) ≤ n ∧ n < 2 ^ 62 ∧ S (Itr 0 n.toNat) H1) ∨
      ∃ a n : Int, ls.length = 2 ∧ vs = [.int a, .int n] ∧ (-(2 ^ 62) ≤ a ∧ a < 2 ^ 62 ∧ -(2 ^ 62) ≤ n ∧ n < 2 ^ 62) ∧ S (Itr a (n - a).toNat) H1 := by
    rintro σ H S ⟨φ, μ, env, s, rs, re, h⟩
    rw [ev_eq] at h
    refine ⟨φ, μ, env, s, rs, re, ?_⟩
    have hlen := evs_len o es env s
    revert h hlen
    generalize evs o es env s = r
    intro h hlen
    cases r with
    | no => exact h
    | ex c d s' => exact h
    | ok ds s' =>
      have hd := hlen ds s' rfl
      intro φ1 μ1 H1 vs l1 rs1 rl
      simp only [Mi.R.bind_ok] at h
      cases q : rangeOf ds with
      | none => rw [q] at h; exact h.elim
      | some xs =>
        rw [q] at h
        simp only [Mi.R.ofO_some, Mi.R.bind_ok] at h
        rcases rangeOf_cases q with ⟨n, e1, c1, c2, e2⟩ | ⟨a, n, e1, c1, c2, c3, c4, e2⟩
        · subst e1
          obtain ⟨v, vr, rfl, r1, r2⟩ := rl.of_cons
          have e0 := r2.of_nil
          subst e0
          rw [relD_int r1]
          exact .inl ⟨n, by rw [hl, ← hd]; rfl, rfl, c2, c1, h φ1 μ1 H1 _ l1 rs1 (relI_range (by rw [e2]; simp))⟩
        · subst e1
          obtain ⟨v, vr, rfl, r1, r2⟩ := rl.of_cons
          obtain ⟨u, ur, rfl, r3, r4⟩ := r2.of_cons
          have e0 := r4.of_nil
          subst e0
          rw [relD_int r1, relD_int r3]
          exact .inr ⟨a, n, by rw [hl, ← hd]; rfl, rfl, ⟨c4, c3, c2, c1⟩, h φ1 μ1 H1 _ l1 rs1 (relI_range e2)⟩
  have lift : ∀ (σ : St) (H : Hp) (Q Q' : List V → Hp → Prop), rdA X.K xc o W es σ H Q → (∀ vs H', Q vs H' → Q' vs H') → rdA X.K xc o W es σ H Q' := by
    rintro σ H Q Q' ⟨φ, μ, env, s, rs, re, h⟩ i
    refine ⟨φ, μ, env, s, rs, re, ?_⟩
    revert h
    generalize evs o es env s = r
    intro h
    cases r with
    | no => exact h
    | ex c d s' => exact h
    | ok ds s' => exact fun φ' μ' H' b l rs' rl => i _ _ (h φ' μ' H' b l rs' rl)
  match ls, h01, hs, pa, fin with
  | [], h01, _, _, _ => simp at h01
  | [l], _, hs, pa, fin =>
    obtain ⟨hs1, _⟩ := and2 (show (notStar l && noStars []) = true from hs)
    refine PI.imp (pi_range1 g1 g2 pa (star_cons hs1)) fun σ H S q => lift σ H _ _ (fin σ H S q) ?_
    rintro vs H1 (⟨n, _, e, c1, c2, q⟩ | ⟨a, n, e, _⟩)
    · exact ⟨n, e, c1, c2, q⟩
    · cases e
  | [l, l2], _, hs, pa, fin =>
    obtain ⟨hs1, hs2⟩ := and2 (show (notStar l && noStars [l2]) = true from hs)
    obtain ⟨hs3, _⟩ := and2 (show (notStar l2 && noStars []) = true from hs2)
    refine PI.imp (pi_range2 g1 g2 pa (by rw [star_cons hs1, star_cons hs3]; rfl) (star_cons hs3)) fun σ H S q => lift σ H _ _ (fin σ H S q) ?_
    rintro vs H1 (⟨n, e, _⟩ | ⟨a, n, _, e, c, q⟩)
    · cases e
    · exact ⟨a, n, e, c, q⟩
  | _ :: _ :: _ :: _, h01, _, _, _ =>
    simp only [List.length_cons] at h01
    omega
end
end Mi

/-! # Targets, comprehensions; all expressions -/
namespace Mi
open PySem L2
/-! ### a thing that is left alone -/
section
variable {K : PySem.W.Frag} {φ : Fz} {μ : List Addr} {H : Hp} {a : Addr} {vs : List V} {o : HO}
theorem alone_ne (h1 : (false, a) ∈ φ) (one : ∀ b, (false, b) ∈ φ → (true, b) ∉ φ) {b : Addr} (h : (true, b) ∈ φ) : b ≠ a := by
  rintro rfl
  exact one _ h1 h
mutual
/-- a tree does not lean on it -/
theorem RelD.alone (h1 : (false, a) ∈ φ) (one : ∀ b, (false, b) ∈ φ → (true, b) ∉ φ) (hl : H a = some (.lst vs)) : ∀ {d : D} {v : V}, RelD K φ μ H d v → RelD K φ μ (upd H a o) d v
  | .non, _, h => by unfold RelD at h ⊢; exact h
  | .bl _, _, h => by unfold RelD at h ⊢; exact h
  | .int _, _, h => by unfold RelD at h ⊢; exact h
  | .str _, _, h => by unfold RelD at h ⊢; exact h
  | .tup ds, _, h => by
    unfold RelD at h ⊢
    obtain ⟨b, us, e, g1, g2⟩ := h
    exact ⟨b, us, e, sqt_upd (fun o' xs z => by rw [hl] at z; cases z; exact (fun z => nomatch z)) (fun o' x xs z => by rw [hl] at z; cases z; exact (fun z => nomatch z)) g1, RelL.alone h1 one hl g2⟩
  | .flst ds, _, h => by
    unfold RelD at h ⊢
    obtain ⟨b, us, e, g1, g2⟩ := h
    refine ⟨b, us, e, ?_, RelL.alone h1 one hl g2⟩
    rcases g1 with ⟨g, g'⟩ | ⟨x, g⟩ | g
    · exact .inl ⟨g, by rw [upd_ne (alone_ne h1 one g)]; exact g'⟩
    · have : b ≠ a := by rintro rfl; rw [hl] at g; cases g
      exact .inr (.inl ⟨x, by rw [upd_ne this]; exact g⟩)
    · exact .inr (.inr g)
  | .loc n, _, h => by unfold RelD at h ⊢; exact h
theorem RelL.alone (h1 : (false, a) ∈ φ) (one : ∀ b, (false, b) ∈ φ → (true, b) ∉ φ) (hl : H a = some (.lst vs)) : ∀ {ds : List D} {us : List V}, RelL K φ μ H ds us → RelL K φ μ (upd H a o) ds us
  | [], _, h => by unfold RelL at h ⊢; exact h
  | d :: ds, _, h => by
    unfold RelL at h ⊢
    obtain ⟨v, r, e, g1, g2⟩ := h
    exact ⟨v, r, e, RelD.alone h1 one hl g1, RelL.alone h1 one hl g2⟩
end
theorem RelS.alone {s : Sto} (rs : RelS K φ μ H s) (h1 : (false, a) ∈ φ) (hl : H a = some (.lst vs)) : RelS K φ μ (upd H a o) s := by
  refine ⟨rs.nd, rs.len, fun n c b e1 e2 => ?_, rs.apart, fun p hp => ?_, rs.one⟩
  · have ne : b ≠ a := by rintro rfl; exact rs.apart _ h1 (List.mem_of_getElem? e2)
    have hc := rs.cell n c b e1 e2
    cases c with
    | lst ds =>
      obtain ⟨us, g1, g2⟩ := hc
      exact ⟨us, by rw [upd_ne ne]; exact g1, RelL.alone h1 rs.one hl g2⟩
  · by_cases e : p.2 = a
    · rw [e, upd_same]; intro z; cases z
    · rw [upd_ne e]; exact rs.here p hp
theorem RelE.alone {env : Env} {σ : St} (re : RelE K φ μ H env σ) (h1 : (false, a) ∈ φ) (one : ∀ b, (false, b) ∈ φ → (true, b) ∉ φ) (hl : H a = some (.lst vs)) : RelE K φ μ (upd H a o) env σ :=
  ⟨re.len, fun i d e => let ⟨v, e1, e2⟩ := re.at_ i d e; ⟨v, e1, RelD.alone h1 one hl e2⟩⟩
/-- from where it was not yet left alone -/
theorem Le.alone {φ0 : Fz} {μ0 : List Addr} {H0 : Hp} (l : Le K φ0 μ0 H0 φ μ H) (n : ∀ b, (b, a) ∉ φ0) (hl : H a = some (.lst vs)) : Le K φ0 μ0 H0 φ μ (upd H a o) := by
  refine ⟨l.fz, l.pl, fun b us g => sqt_upd (fun o' xs z => by rw [hl] at z; cases z; exact (fun z => nomatch z)) (fun o' x xs z => by rw [hl] at z; cases z; exact (fun z => nomatch z)) (l.tup b us g), fun b x u g => ?_, fun p hp => ?_⟩
  · have g' := l.frz b x u g
    have : b ≠ a := by rintro rfl; rw [hl] at g'; cases g'
    rw [upd_ne this]; exact g'
  · have : p.2 ≠ a := by rintro rfl; exact n p.1 hp
    rw [upd_ne this]; exact l.set p hp
/-- no longer left alone -/
def drp (φ : Fz) (a : Addr) : Fz := φ.filter fun p => decide (p ≠ (false, a))
theorem mem_drp {p : Bool × Addr} (h : p ∈ φ) (n : p ≠ (false, a)) : p ∈ drp φ a := List.mem_filter.mpr ⟨h, by simpa using n⟩
theorem of_drp {p : Bool × Addr} (h : p ∈ drp φ a) : p ∈ φ ∧ p ≠ (false, a) := by
  obtain ⟨h1, h2⟩ := List.mem_filter.mp h
  exact ⟨h1, by simpa using h2⟩
mutual
theorem RelD.drp : ∀ {d : D} {v : V}, RelD K φ μ H d v → RelD K (drp φ a) μ H d v
  | .non, _, h => by unfold RelD at h ⊢; exact h
  | .bl _, _, h => by unfold RelD at h ⊢; exact h
  | .int _, _, h => by unfold RelD at h ⊢; exact h
  | .str _, _, h => by unfold RelD at h ⊢; exact h
  | .tup ds, _, h => by
    unfold RelD at h ⊢
    obtain ⟨b, us, e, g1, g2⟩ := h
    exact ⟨b, us, e, g1, RelL.drp g2⟩
  | .flst ds, _, h => by
    unfold RelD at h ⊢
    obtain ⟨b, us, e, g1, g2⟩ := h
    refine ⟨b, us, e, ?_, RelL.drp g2⟩
    rcases g1 with ⟨g, g'⟩ | g | g
    · exact .inl ⟨mem_drp g (fun z => nomatch z), g'⟩
    · exact .inr (.inl g)
    · exact .inr (.inr g)
  | .loc n, _, h => by unfold RelD at h ⊢; exact h
theorem RelL.drp : ∀ {ds : List D} {us : List V}, RelL K φ μ H ds us → RelL K (drp φ a) μ H ds us
  | [], _, h => by unfold RelL at h ⊢; exact h
  | d :: ds, _, h => by
    unfold RelL at h ⊢
    obtain ⟨v, r, e, g1, g2⟩ := h
    exact ⟨v, r, e, RelD.drp g1, RelL.drp g2⟩
end
theorem RelS.drp {s : Sto} (rs : RelS K φ μ H s) : RelS K (drp φ a) μ H s := by
  refine ⟨rs.nd, rs.len, fun n c b e1 e2 => ?_, fun p hp => rs.apart p (of_drp hp).1, fun p hp => rs.here p (of_drp hp).1, fun b h1 h2 => rs.one b (of_drp h1).1 (of_drp h2).1⟩
  have hc := rs.cell n c b e1 e2
  cases c with
  | lst ds =>
    obtain ⟨us, g1, g2⟩ := hc
    exact ⟨us, g1, RelL.drp g2⟩
theorem Le.drp {φ0 : Fz} {μ0 : List Addr} {H0 : Hp} (l : Le K φ0 μ0 H0 φ μ H) (n : ∀ b, (b, a) ∉ φ0) : Le K φ0 μ0 H0 (drp φ a) μ H :=
  ⟨fun p hp => mem_drp (l.fz p hp) (by rintro rfl; exact n _ hp), l.pl, l.tup, l.frz, l.set⟩
end
/-! ### targets -/
def tgSlots : Tg → List Nat
  | .nm i => [i]
  | .tp is => is
def gNms : List Nat → TGs
  | [] => gNil
  | i :: is => gCons (gName i) (gNms is)
/-- a value is bound -/
def gB (K : PySem.W.Frag) (tg : Tg) : TG := fun v σ H Q => ∃ φ μ env d env', RelE K φ μ H env σ ∧ RelD K φ μ H d v ∧ bindTg tg d env = some env' ∧ ∀ σ', RelE K φ μ H env' σ' → (∀ i, i ∉ tgSlots tg → σ'[i]? = σ[i]?) → Q σ' H
section
variable {T : Tab} {xc : XcT} {o : Orc} {W : WX} {k : Nat} {C : SC} {X : Cx}
theorem PG.imp {e : Expr} {t t' : TG} (h : PG X e t) (i : ∀ v σ H Q, t' v σ H Q → t v σ H Q) : PG X e t' := ⟨fun pins s σ H v u Q I r q => h.run pins s σ H v u Q I r (i v σ H Q q)⟩
/-- what a place asks of its names -/
structure GoodN (C : SC) (X : Cx) : Prop where
  calm : X.calm = true
  nd : C.N.Nodup
  N : X.N = C.N
  sc : X.env.scope = C.sc
  fn : X.fn = C.fn
theorem Good.n (G : Good T xc o W k C X) : GoodN C X := ⟨G.calm, G.nd, G.N, G.sc, G.fn⟩
theorem pg_nm {i : Nat} {x : Str} {pos : Pos} (G : GoodN C X) (h : nmIs C i x = true) : PG X (.Name x pos) (gName i) := by
  unfold nmIs isKind at h
  simp only [Bool.and_eq_true, Bool.or_eq_true, decide_eq_true_eq] at h
  obtain ⟨h1, h2⟩ := h
  have hN : X.N.Nodup := by rw [G.N]; exact G.nd
  have hi : X.N[i]? = some x := by rw [G.N]; exact h1
  rcases h2 with h2 | ⟨h2, h3⟩
  · have e : X.env.scope.names.lookup x = some .local := by rw [G.sc]; exact h2
    exact pg_name hN hi (.inl e) (.inr e)
  · have e : X.env.scope.names.lookup x = some .cell := by rw [G.sc]; exact h2
    exact pg_name hN hi (.inr e) (.inl (by rw [G.fn]; exact h3))
theorem pgs_nms (G : GoodN C X) : ∀ {is : List Nat} {es : List Expr}, mtNms C is es = true → PGs X es (gNms is) ∧ (assignEach es X.env).length = is.length ∧ (assignEach es X.env).findIdx? (·.1) = none ∧ (∀ p ∈ assignEach es X.env, p.1 = false)
  | [], [], _ => ⟨pgs_nil, rfl, rfl, fun p hp => by cases hp⟩
  | [], _ :: _, h => by unfold mtNms at h; cases h
  | i :: is, [], h => by unfold mtNms at h; cases h
  | i :: is, e :: es, h => by
    cases e <;> first | (unfold mtNms at h; cases h; done) | skip
    rename_i x pos
    unfold mtNms at h
    obtain ⟨h1, h2⟩ := and2 h
    obtain ⟨g1, g2, g3, g4⟩ := pgs_nms G h2
    refine ⟨pgs_cons (pg_nm G h1) g1 rfl, ?_, ?_, fun p hp => ?_⟩
    · show (assignEach es X.env).length + 1 = is.length + 1
      rw [g2]
    · rw [List.findIdx?_eq_none_iff]
      intro p hp
      rcases List.mem_cons.mp (show p ∈ (false, PySem.assign (.Name x pos) X.env) :: assignEach es X.env from hp) with rfl | hp
      · rfl
      · exact g4 p hp
    · rcases List.mem_cons.mp (show p ∈ (false, PySem.assign (.Name x pos) X.env) :: assignEach es X.env from hp) with rfl | hp
      · rfl
      · exact g4 p hp
theorem setAll_rel {K : PySem.W.Frag} {φ : Fz} {μ : List Addr} {H : Hp} : ∀ {is : List Nat} {ds : List D} {vs : List V} {env env' : Env} {σ : St} {Q : St → Hp → Prop}, RelE K φ μ H env σ → RelL K φ μ H ds vs → setAll env is ds = some env' →
    (∀ σ', RelE K φ μ H env' σ' → (∀ i, i ∉ is → σ'[i]? = σ[i]?) → Q σ' H) → gNms is vs σ H Q
  | [], [], vs, env, env', σ, Q, re, rl, h, q => by
    cases h
    have e := rl.of_nil
    subst e
    exact ⟨rfl, q σ re fun _ _ => rfl⟩
  | [], _ :: _, _, _, _, _, _, _, _, h, _ => by cases h
  | _ :: _, [], _, _, _, _, _, _, _, h, _ => by cases h
  | i :: is, d :: ds, vs, env, env', σ, Q, re, rl, h, q => by
    obtain ⟨v, r, rfl, r1, r2⟩ := rl.of_cons
    refine ⟨v, r, rfl, setAll_rel (re.set r1) r2 h fun σ' re' hσ => q σ' re' fun j hj => ?_⟩
    rw [hσ j fun z => hj (List.mem_cons_of_mem _ z)]
    exact List.getElem?_set_ne fun (z : i = j) => hj (by subst z; exact List.mem_cons_self)
theorem setAll_len : ∀ {is : List Nat} {ds : List D} {env env' : Env}, setAll env is ds = some env' → ds.length = is.length
  | [], [], _, _, _ => rfl
  | [], _ :: _, _, _, h => by cases h
  | _ :: _, [], _, _, h => by cases h
  | i :: is, d :: ds, env, env', h => by rw [List.length_cons, List.length_cons, setAll_len (env := env.set i (some d)) h]
theorem pg_tg {tg : Tg} {e : Expr} (G : GoodN C X) (h : mtTg C tg e = true) : PG X e (gB X.K tg) := by
  cases tg with
  | nm i =>
    cases e <;> first | (unfold mtTg at h; cases h; done) | skip
    refine PG.imp (pg_nm G h) fun v σ H Q => ?_
    rintro ⟨φ, μ, env, d, env', re, rd, e, q⟩
    cases e
    exact q _ (re.set rd) fun j hj => List.getElem?_set_ne fun (z : i = j) => hj (by subst z; exact List.mem_cons_self)
  | tp is =>
    cases e <;> first | (unfold mtTg at h; cases h; done) | skip
    obtain ⟨g1, g2, g3, _⟩ := pgs_nms G h
    refine PG.imp (pg_tup G.calm g1 g2 g3) fun v σ H Q => ?_
    rintro ⟨φ, μ, env, d, env', re, rd, e, q⟩
    cases d <;> first | cases e | skip
    rename_i ds
    obtain ⟨a, vs, rfl, h1, h2⟩ := relD_tup rd
    exact ⟨a, vs, rfl, h1, by rw [← h2.length]; exact setAll_len (show setAll env is ds = some env' from e), setAll_rel re h2 e q⟩
theorem wipe_rel {K : PySem.W.Frag} {φ : Fz} {μ : List Addr} {H : Hp} : ∀ {own : List Nat} {env : Env} {σ : St}, RelE K φ μ H env σ → RelE K φ μ H (wipe env own) (L2.wipe σ own)
  | [], _, _, h => h
  | i :: r, env, σ, h => by
    unfold wipe L2.wipe
    exact (wipe_rel h).unset
theorem tgIn_slots {own : List Nat} {tg : Tg} (h : tgIn own tg = true) : ∀ i ∈ tgSlots tg, i ∈ own := by
  cases tg with
  | nm i =>
    intro j hj
    have : j = i := by simpa [tgSlots] using hj
    subst this
    simpa [tgIn] using h
  | tp is =>
    intro j hj
    have := List.all_eq_true.mp (show is.all (fun i => own.contains i) = true from h) j hj
    simpa using this
theorem wipe_same {own : List Nat} {σ τ : St} (hl : σ.length = τ.length) (h : ∀ i, i ∉ own → σ[i]? = τ[i]?) : L2.wipe σ own = L2.wipe τ own := by
  apply List.ext_getElem?
  intro i
  have inn : ∀ (l : List Nat) (σ : St), i ∈ l → (L2.wipe σ l)[i]? = if i < σ.length then some none else none := by
    intro l
    induction l with
    | nil => intro σ h; cases h
    | cons a l ih =>
      intro σ h
      unfold L2.wipe
      by_cases ha : a = i
      · subst ha
        by_cases hlt : a < σ.length
        · rw [if_pos hlt, List.getElem?_set_self (by rw [L2.wipe_length]; exact hlt)]
        · rw [if_neg hlt, List.getElem?_eq_none]
          rw [List.length_set, L2.wipe_length]
          omega
      · rw [List.getElem?_set_ne ha]
        rcases List.mem_cons.mp h with e | h
        · exact absurd e.symm ha
        · exact ih σ h
  by_cases hi : i ∈ own
  · rw [inn own σ hi, inn own τ hi, hl]
  · rw [wipe_out hi, wipe_out hi, h i hi]
theorem lt_line {n : Nat} (h : n < sizeMax) : n < sizeLine := by rw [sizeLine_eq]; exact h
/-- outside a def's own errors -/
abbrev WF : WX := fun _ _ _ _ => False
/-- a turn of what is gone along -/
theorem relI_step {K : PySem.W.Frag} {φ φ' : Fz} {μ μ' : List Addr} {H H' : Hp} {src : Src} {J : It} {i : Nat} {s : Sto} (h : relI K φ μ H src J) (l : Le K φ μ H φ' μ' H') (rs : RelS K φ' μ' H' s) :
    (∀ d, srcGet src i s = some d → J.go i H' ∧ ∀ x H'', J.yld i H' x H'' → Le K φ' μ' H' φ' μ' H'' ∧ RelS K φ' μ' H'' s ∧ RelD K φ' μ' H'' d x) ∧ (srcEnd src i s = true → J.stop i H') := by
  cases src with
  | fix xs =>
    obtain ⟨h1, h2, h3⟩ := h i φ' μ' H' l
    exact ⟨fun d e => ⟨h1 d e, fun x H'' y => h2 d x H'' s e rs y⟩, fun e => h3 (of_decide_eq_true e)⟩
  | at_ n len =>
    obtain ⟨a, e1, rfl⟩ := h
    have e2 := get_pre l.pl e1
    refine ⟨fun d e => ?_, fun e => ?_⟩
    · simp only [srcGet] at e
      cases q : s[n]? with
      | none => rw [q] at e; cases e
      | some c =>
        rw [q] at e
        cases c with
        | lst xs =>
          obtain ⟨vs, g1, g2⟩ := rs.cell n _ a q e2
          obtain ⟨v, g3, g4⟩ := g2.get e
          refine ⟨⟨vs, v, SqL.of g1, g3⟩, fun x H'' y => ?_⟩
          obtain ⟨y1, y2⟩ := y
          subst y1
          have := y2 vs (SqL.of g1)
          rw [g3] at this
          cases this
          exact ⟨Le.refl, rs, g4⟩
    · simp only [srcEnd] at e
      cases q : s[n]? with
      | none => rw [q] at e; cases e
      | some c =>
        rw [q] at e
        cases c with
        | lst xs =>
          obtain ⟨vs, g1, g2⟩ := rs.cell n _ a q e2
          exact ⟨vs, SqL.of g1, by rw [← g2.length]; exact of_decide_eq_true e⟩
theorem mapG_len {β : Type} {f : D → Sto → R β} {src : Src} : ∀ {k i : Nat} {s s' : Sto} {ys : List β}, mapG f src k i s = .ok ys s' → ys.length = k
  | 0, i, s, s', ys, h => by
    simp only [mapG] at h
    split at h
    · cases h; rfl
    · cases h
  | k + 1, i, s, s', ys, h => by
    simp only [mapG] at h
    split at h
    · rename_i d _
      cases q : f d s with
      | no => rw [q] at h; cases h
      | ex _ _ _ => rw [q] at h; cases h
      | ok x s1 =>
        rw [q] at h
        simp only [R.bind_ok] at h
        cases q2 : mapG f src k (i + 1) s1 with
        | no => rw [q2] at h; cases h
        | ex _ _ _ => rw [q2] at h; cases h
        | ok xs s2 =>
          rw [q2] at h
          simp only [R.bind_ok, R.ok.injEq] at h
          rw [← h.1, List.length_cons, mapG_len q2]
    · cases h
theorem fin_no {K : PySem.W.Frag} {α β : Type} {rel : Rl α β} {φ : Fz} {μ : List Addr} {H : Hp} {σ : St} {Q : β → Hp → Prop} (h : Fin K xc W rel φ μ H σ (.no : R α) Q) : False := h
theorem setAll_env_len : ∀ {is : List Nat} {ds : List D} {env env' : Env}, setAll env is ds = some env' → env'.length = env.length
  | [], [], _, _, h => by cases h; rfl
  | [], _ :: _, _, _, h => by cases h
  | _ :: _, [], _, _, h => by cases h
  | i :: is, d :: ds, env, env', h => by rw [setAll_env_len (env := env.set i (some d)) h, List.length_set]
theorem bindTg_len {tg : Tg} {d : D} {env env' : Env} (h : bindTg tg d env = some env') : env'.length = env.length := by
  cases tg with
  | nm i => cases h; exact List.length_set ..
  | tp is =>
    cases d <;> first | cases h | skip
    exact setAll_env_len (show setAll env is _ = some env' from h)
theorem wipe_env_len {env : Env} : ∀ {own : List Nat}, (wipe env own).length = env.length
  | [] => rfl
  | i :: r => by unfold wipe; rw [List.length_set]; exact wipe_env_len
theorem mapG_noex {β : Type} {f : D → Sto → R β} (hf : ∀ d s c v s', f d s ≠ .ex c v s') {src : Src} : ∀ {k i : Nat} {s : Sto} {c v s'}, mapG f src k i s ≠ .ex c v s'
  | 0, i, s, c, v, s', h => by
    simp only [mapG] at h
    split at h <;> cases h
  | k + 1, i, s, c, v, s', h => by
    simp only [mapG] at h
    split at h
    · rename_i d _
      cases q : f d s with
      | no => rw [q] at h; cases h
      | ex _ _ _ => exact hf _ _ _ _ _ q
      | ok x s1 =>
        rw [q] at h
        simp only [R.bind_ok] at h
        cases q2 : mapG f src k (i + 1) s1 with
        | no => rw [q2] at h; cases h
        | ex _ _ _ => exact mapG_noex hf q2
        | ok xs s2 => rw [q2] at h; cases h
    · cases h
theorem turnC_noex {tg : Tg} {own : List Nat} {env : Env} {f : Env → Sto → R P} (d : D) (s : Sto) (c : String) (v : D) (s' : Sto) : turnC tg own env f d s ≠ .ex c v s' := by
  unfold turnC
  split
  · generalize (f _ s).bind lay = r
    cases r <;> exact (fun z => nomatch z)
  · exact (fun z => nomatch z)
/-- the environment of a block -/
theorem Good.blk {scope : Scope} {s : Shared} {H : Hp} {A : Addr} {cl : List (Str × Addr)} {fp : List Addr} (G : Good T xc o W k C X) : Good T xc o WF k (blk C scope) (X.blk s H scope (compEnvC scope cl A X.env) fp) := by
  refine ⟨G.calm, G.nd, G.N, ?_, rfl, G.free, G.room, G.guards, takes0, PassesOwn.never, G.glo, G.call⟩
  show relS scope X.env.scope = relS scope C.sc
  rw [G.sc]
/-- a comprehension's reading -/
theorem lc_rd {elt it : E} {tg : Tg} {own : List Nat} {σ : St} {H : Hp} {Q : VK} (h5 : tgIn own tg = true) : rdP X.K xc o W (.lc elt tg it own) σ H Q → tLc (rdI X.K xc o W it) (gB X.K tg) tYes (rdE X.K xc o WF elt) own σ H Q := by
  rintro ⟨φ, μ, env, s, rs, re, h⟩
  simp only [ev] at h
  refine ⟨φ, μ, env, s, rs, re, ?_⟩
  have h' : Fin X.K xc W (relP X.K) φ μ H σ ((evi o it env s).bind fun src s2 => (mapSrc (turnC tg own env fun env' s => ev o elt env' s) src s2).bind fun ds s3 => if ds.length ≤ sizeMax then .ok (.new ds) s3 else .no) Q := by
    revert h
    unfold evi
    generalize ev o it env s = r
    intro h
    cases r with
    | no => exact h
    | ex c d s' => exact h
    | ok p s' => exact h
  clear h
  refine Fin.bind h' fun src s0 φ0 μ0 H0 J l0 rs0 rj h => ?_
  intro D hD
  have n1 : ∀ b, (b, D) ∉ φ0 := fun b hb => rs0.here _ hb hD
  have n2 : D ∉ μ0 := fun hm => rs0.here_mu hm hD
  have re0 := re.up l0
  have lD := Le.new (K := X.K) (φ := φ0) (μ := μ0) (H := H0) (p := D) (o := .lst []) hD rs0.here
  obtain ⟨rsD, leD⟩ := (rs0.beside (o := .lst []) hD).aside (a := D) false (by rw [upd_same]; exact (fun z => nomatch z)) n1 n2
  let f := turnC tg own env fun env' s => ev o elt env' s
  refine ⟨fun i m Hh => ∃ φc μc sc done dvs, (false, D) ∈ φc ∧ Hh D = some (.lst dvs) ∧ RelL X.K φc μc Hh done dvs ∧ RelS X.K φc μc Hh sc ∧ Le X.K φ0 μ0 H0 φc μc Hh ∧
    Fin X.K xc W (relP X.K) φ0 μ0 H0 σ ((mapG f src m i sc).bind fun ds s3 => if (done ++ ds).length ≤ sizeMax then .ok (.new (done ++ ds)) s3 else .no) Q, ⟨srcLen src, (false, D) :: φ0, μ0, s0, [], [], List.mem_cons_self, upd_same, .nil, rsD, lD.trans leD, h⟩, ?_⟩
  rintro i m Hh ⟨φc, μc, sc, done, dvs, z1, z2, z3, z4, z5, z6⟩
  obtain ⟨t1, t2⟩ := relI_step rj z5 z4
  cases m with
  | zero =>
    simp only [mapG] at z6
    by_cases he : srcEnd src i sc = true
    · refine .inl ⟨t2 he, ?_⟩
      rw [if_pos he] at z6
      simp only [R.bind_ok, List.append_nil] at z6
      by_cases hl : done.length ≤ sizeMax
      · rw [if_pos hl] at z6
        refine z6 (drp φc D) μc Hh (.ref D) (z5.drp n1) z4.drp ⟨D, dvs, rfl, z2, fun b hb => ?_, fun hm => z4.apart _ z1 hm, z3.drp⟩
        obtain ⟨b1, b2⟩ := of_drp hb
        cases b with
        | false => exact b2 rfl
        | true => exact z4.one _ z1 b1
      · rw [if_neg hl] at z6; exact z6.elim
    · rw [if_neg he] at z6; exact z6.elim
  | succ m =>
    simp only [mapG] at z6
    cases q : srcGet src i sc with
    | none => rw [q] at z6; exact z6.elim
    | some d =>
      rw [q] at z6
      simp only at z6
      obtain ⟨g1, g2⟩ := t1 d q
      refine .inr ⟨g1, fun H' => ∃ φc μc sc done dvs, (false, D) ∈ φc ∧ H' D = some (.lst dvs) ∧ RelL X.K φc μc H' done dvs ∧ RelS X.K φc μc H' sc ∧ Le X.K φ0 μ0 H0 φc μc H' ∧
        Fin X.K xc W (relP X.K) φ0 μ0 H0 σ ((mapG f src m (i + 1) sc).bind fun ds s3 => if (done ++ ds).length ≤ sizeMax then .ok (.new (done ++ ds)) s3 else .no) Q, fun H' w => ⟨m, Nat.lt_succ_self m, w⟩, fun x H'' y => ?_⟩
      obtain ⟨y1, y2, y3⟩ := g2 x H'' y
      have z2' : H'' D = some (.lst dvs) := (y1.set _ z1).trans z2
      cases qb : bindTg tg d (wipe env own) with
      | none =>
        have : f d sc = .no := by show turnC _ _ _ _ _ _ = _; unfold turnC; rw [qb]
        rw [this] at z6
        exact z6.elim
      | some env' =>
        have hf : f d sc = (evv o elt env' sc).nox := by show turnC _ _ _ _ _ _ = _; unfold turnC evv; rw [qb]
        rw [hf] at z6
        have rew : RelE X.K φc μc H'' (wipe env own) (L2.wipe σ own) := wipe_rel (RelE.up y1 (RelE.up z5 re0))
        refine ⟨φc, μc, wipe env own, d, env', rew, y3, qb, fun (σ' : St) re' hσ => ⟨?_, ?_⟩⟩
        · refine wipe_same ?_ fun j hj => ?_
          · rw [← re'.len, bindTg_len qb, wipe_env_len, re.len]
          · rw [hσ j fun hm => hj (tgIn_slots h5 j hm)]
            exact wipe_out hj
        · unfold tYes
          simp only [if_true]
          refine ⟨φc, μc, env', sc, y2, re', ?_⟩
          revert z6
          generalize evv o elt env' sc = r
          intro z6
          cases r with
          | no => exact z6.elim
          | ex c v s' => exact z6.elim
          | ok yd s1 =>
            simp only [R.nox_ok, R.bind_ok] at z6
            intro φ' μ' H4 b l' rs4 rb
            have w1 : (false, D) ∈ φ' := l'.fz _ z1
            have w2 : H4 D = some (.lst dvs) := (l'.set _ z1).trans z2'
            have w3 : RelL X.K φ' μ' H4 done dvs := (z3.up y1).up l'
            have hlen : done.length < sizeMax ∧ Fin X.K xc W (relP X.K) φ0 μ0 H0 σ ((mapG f src m (i + 1) s1).bind fun ds s3 => if ((done ++ [yd]) ++ ds).length ≤ sizeMax then .ok (.new ((done ++ [yd]) ++ ds)) s3 else .no) Q := by
              cases q3 : mapG f src m (i + 1) s1 with
              | no => rw [q3] at z6; exact z6.elim
              | ex c v s' => exact (mapG_noex (fun d s c v s' => turnC_noex d s c v s') q3).elim
              | ok ds s3 =>
                rw [q3] at z6
                simp only [R.bind_ok] at z6 ⊢
                rw [List.append_assoc]
                refine ⟨?_, z6⟩
                by_cases hl : (done ++ yd :: ds).length ≤ sizeMax
                · rw [List.length_append, List.length_cons] at hl; omega
                · rw [if_neg hl] at z6; exact z6.elim
            refine ⟨dvs, w2, by rw [← w3.length]; exact lt_line hlen.1, φ', μ', s1, done ++ [yd], dvs ++ [b], w1, upd_same, ?_, rs4.alone w1 w2, ((z5.trans y1).trans l').alone n1 w2, hlen.2⟩
            exact RelL.alone w1 rs4.one w2 (w3.append (.cons rb .nil))
theorem s_lc {m : Md} {elt it : E} {tg : Tg} {own : List Nat} {e : Expr} (G : Good T xc o W k C X) (ii : ∀ l, mtE T .i C it l = true → ∀ tg', PI X tg' l (rdI X.K xc o W it))
    (ie : ∀ (C' : SC) (X' : Cx), Good T xc o WF k C' X' → IhE T xc o WF C' X' elt) (h : mtE T m C (.lc elt tg it own) e = true) : PE X e (rdP X.K xc o W (.lc elt tg it own)) := by
  simp only [mtE] at h
  split at h <;> first | cases h | skip
  rename_i elt' tg' it' scope pos
  simp only [Bool.and_eq_true] at h
  obtain ⟨⟨⟨⟨⟨h1, h2⟩, h3⟩, h4⟩, h5⟩, h6⟩ := h
  have hown : (own.map fun i => (C.N.getD i "", i)).map (·.2) = own := by
    rw [List.map_map]
    exact List.map_id' own
  have hN : X.N.Nodup := by rw [G.N]; exact G.nd
  have ok : BlkOk X.N X.env.scope scope (own.map fun i => (C.N.getD i "", i)) := by
    rw [G.N, G.sc]
    exact blkOk_by h1
  refine PE.imp (pe_lc (g := gB X.K tg) (tt := tYes) (te := rdE X.K xc o WF elt) G.calm hN (ii it' h2 tg') ok (fun s H A cl fp => pg_tg (Good.n (Good.blk G)) h4) (fun _ _ _ _ _ => pts_nil)
    (fun s H A cl fp => to_E (ie _ _ (Good.blk G) elt' h6)) (fun x => folded_none h3)) fun σ H Q => ?_
  rw [hown]
  exact lc_rd h5
end
end Mi

/-! # All expressions -/
namespace Mi
open PySem L2
section
variable {T : Tab} {xc : XcT} {o : Orc} {W : WX} {k : Nat} {C : SC} {X : Cx}
theorem Fin.ofO' {K : PySem.W.Frag} {α β γ : Type} {rel : Rl γ β} {φ : Fz} {μ : List Addr} {H : Hp} {σ : St} {oa : Option α} {f : α → Sto → R γ} {s : Sto} {Q : β → Hp → Prop} (h : Fin K xc W rel φ μ H σ ((R.ofO oa s).bind f) Q) : ∃ a, oa = some a ∧ Fin K xc W rel φ μ H σ (f a s) Q := by
  cases oa with
  | some a => exact ⟨a, rfl, h⟩
  | none => exact h.elim
theorem rgV_rel {K : PySem.W.Frag} {φ : Fz} {μ : List Addr} {H : Hp} (lo : Int) : ∀ (l : List Nat), RelL K φ μ H (l.map fun (k : Nat) => D.int (lo + (k : Int))) (l.map fun i => V.int (lo + (i : Nat)))
  | [] => .nil
  | a :: l => .cons mk_int (rgV_rel lo l)
theorem s_lrg {m : Md} {es : Es} {e : Expr} (G : Good T xc o W k C X) (ih : ∀ e, EsHas es e → IhE T xc o W C X e) (h : mtE T m C (.lrg es) e = true) : PE X e (rdP X.K xc o W (.lrg es)) := by
  simp only [mtE] at h
  split at h <;> first | cases h | skip
  rename_i x p y p2 ls pos2 pos
  obtain ⟨h0, h1, h2, h3⟩ := and4 h
  have h01 := of_decide_eq_true h0
  obtain ⟨e1, g1, g2⟩ := blt_ok G h1
  obtain ⟨e2, g3, g4⟩ := blt_ok G h2
  subst e1 e2
  have hl := mtEs_len h3
  have hs := mtEs_stars h3
  match es, ls, h01, hl, hs, h3, ih with
  | .nil, ls, h01, hl, _, _, _ => rw [hl] at h01; simp [Es.len] at h01
  | .cons a .nil, [], h01, hl, _, _, _ => simp at h01
  | .cons a .nil, l :: l2 :: ls, h01, hl, _, _, _ => simp [Es.len] at hl
  | .cons a .nil, [l], _, _, hs, h3, ih =>
    unfold mtEs at h3
    obtain ⟨q1, q2, _⟩ := and3 h3
    refine PE.imp (pe_listRg G.calm g1 g2 (prg_1 g3 g4 (to_E (ih a .head l q1)) (star_cons q2)) rfl) fun σ H Q => ?_
    rintro ⟨φ, μ, env, s, rs, re, h⟩
    simp only [ev, evs, R.bindv] at h
    refine ⟨φ, μ, env, s, rs, re, ?_⟩
    revert h
    unfold evv
    generalize (ev o a env s).bind lay = r
    intro h
    cases r with
    | no => exact h.elim
    | ex c d s' => exact h
    | ok d s' =>
      intro φ1 μ1 H1 v l1 rs1 rd
      simp only [R.bind_ok] at h
      obtain ⟨xs, q, h'⟩ := Fin.ofO' h
      clear h
      rcases rangeOf_cases q with ⟨n, e1, c1, c2, e2⟩ | ⟨a, n, e1, _⟩
      · cases e1
        rw [relD_int rd]
        split at h'
        · rename_i hc
          have hc' : n.toNat ≤ 16777216 := by
            have : xs.length = n.toNat := by rw [e2]; simp
            rw [← this]; exact hc
          refine ⟨n, rfl, ⟨by omega, by omega, c2, c1, by omega⟩, new_fin (h'.up l1) rs1 ?_⟩
          subst e2
          have := rgV_rel (K := X.K) (φ := φ1) (μ := μ1) (H := H1) 0 (List.range n.toNat)
          unfold rgV
          simpa using this
        · exact h'.elim
      · cases e1
  | .cons a (.cons b .nil), [], h01, hl, _, _, _ => simp at h01
  | .cons a (.cons b .nil), [l], h01, hl, _, _, _ => simp [Es.len] at hl
  | .cons a (.cons b .nil), l :: l2 :: l3 :: ls, h01, hl, _, _, _ => simp [Es.len] at hl
  | .cons a (.cons b .nil), [l, l2], _, _, hs, h3, ih =>
    unfold mtEs at h3
    obtain ⟨q1, q2, h3⟩ := and3 h3
    unfold mtEs at h3
    obtain ⟨q3, q4, _⟩ := and3 h3
    refine PE.imp (pe_listRg G.calm g1 g2 (prg_2 g3 g4 (to_E (ih a .head l q1)) (to_E (ih b (.tail .head) l2 q3)) (by rw [star_cons q2, star_cons q4]) (star_cons q4) (by rw [star_cons q4]; rfl)) rfl) fun σ H Q => ?_
    rintro ⟨φ, μ, env, s, rs, re, h⟩
    simp only [ev, evs, R.bindv] at h
    refine ⟨φ, μ, env, s, rs, re, ?_⟩
    revert h
    unfold evv
    generalize (ev o a env s).bind lay = r
    intro h
    cases r with
    | no => exact h.elim
    | ex c d s' => exact h
    | ok d s' =>
      intro φ1 μ1 H1 v l1 rs1 rd
      simp only [R.bind_ok] at h
      refine ⟨φ1, μ1, env, s', rs1, re.up l1, ?_⟩
      revert h
      unfold evv
      generalize (ev o b env s').bind lay = r
      intro h
      cases r with
      | no => exact h.elim
      | ex c d s' => exact h.up l1
      | ok d2 s2 =>
        intro φ2 μ2 H2 v2 l2 rs2 rd2
        simp only [R.bind_ok] at h
        obtain ⟨xs, q, h'⟩ := Fin.ofO' h
        clear h
        rcases rangeOf_cases q with ⟨n, e1, _⟩ | ⟨a, n, e1, c1, c2, c3, c4, e2⟩
        · cases e1
        · cases e1
          rw [relD_int rd, relD_int rd2]
          split at h'
          · rename_i hc
            have hc' : (n - a).toNat ≤ 16777216 := by
              have : xs.length = (n - a).toNat := by rw [e2]; simp
              rw [← this]; exact hc
            refine ⟨a, n, rfl, rfl, ⟨c4, c3, c2, c1, by omega⟩, new_fin (h'.up (l1.trans l2)) rs2 ?_⟩
            subst e2
            exact rgV_rel a _
          · exact h'.elim
  | .cons a (.cons b (.cons c r)), ls, h01, hl, _, _, _ =>
    rw [hl] at h01
    simp [Es.len] at h01
/-- a matched piece, in each way of reading it -/
def Ok3 (T : Tab) (xc : XcT) (o : Orc) (k : Nat) (e : E) : Prop := ∀ (W : WX) (C : SC) (X : Cx), Good T xc o W k C X → (∀ x, mtE T .v C e x = true → PE X x (rdP X.K xc o W e)) ∧ (∀ x, mtE T .t C e x = true → PT X x (rdT X.K xc o W e)) ∧ (∀ x, mtE T .i C e x = true → ∀ tg, PI X tg x (rdI X.K xc o W e))
/-- forms that are only read as values -/
theorem ok3_plain {e : E} (hp : ∀ C x, mtE T .t C e x = true → plainTest x = true) (h : ∀ (W : WX) (C : SC) (X : Cx) (m : Md), Good T xc o W k C X → ∀ x, mtE T m C e x = true → PE X x (rdP X.K xc o W e)) : Ok3 T xc o k e :=
  fun W C X G => ⟨fun x m => h W C X .v G x m, fun x m => to_T (hp C x m) (h W C X .t G x m), fun x m tg => pi_val (h W C X .i G x m)⟩
mutual
theorem allE : ∀ (e : E), Ok3 T xc o k e
  | .var i => ok3_plain (fun C x h => by unfold mtE at h; cases x <;> first | cases h | rfl) fun W C X m G x h => s_var G h
  | .con d => ok3_plain (fun C x h => by unfold mtE at h; cases x <;> first | cases h | rfl) fun W C X m G x h => s_con h
  | .glo d => ok3_plain (fun C x h => by unfold mtE at h; cases x <;> first | cases h | rfl) fun W C X m G x h => s_glo G h
  | .bin op a b => ok3_plain (fun C x h => by unfold mtE at h; cases x <;> first | cases h | rfl) fun W C X m G x h => s_bin (allE a W C X G).1 (allE b W C X G).1 h
  | .neg a => ok3_plain (fun C x h => by
      unfold mtE at h
      cases x <;> first | cases h | skip
      rename_i q _ _
      cases q <;> first | cases h | skip
      all_goals (simp at h)) fun W C X m G x h => s_neg (allE a W C X G).1 h
  | .not a => fun W C X G => ⟨fun x h => s_not (m := .v) (allE a W C X G).1 h, fun x h => t_not (allE a W C X G).2.1 h, fun x h => by
      unfold mtE at h
      cases x <;> first | cases h | skip
      rename_i q _ _
      cases q <;> first | cases h | skip
      all_goals (simp at h)⟩
  | .and es => fun W C X G => ⟨fun x h => by
      unfold mtE at h
      cases x <;> first | cases h | skip
      rename_i q _ _
      cases q <;> first | cases h | skip
      exact s_and (fun e l he hm => (allEs es e he W C X G).1 l hm) (and2 h).2, fun x h => by
      unfold mtE at h
      cases x <;> first | cases h | skip
      rename_i q _ _
      cases q <;> first | cases h | skip
      exact (t_and (fun e l he hm => (allEs es e he W C X G).2.1 l hm) (and2 h).2).pt, fun x h => by
      unfold mtE at h
      cases x <;> first | cases h | skip
      rename_i q _ _
      cases q <;> first | cases h | skip
      all_goals (simp at h)⟩
  | .or es => fun W C X G => ⟨fun x h => by
      unfold mtE at h
      cases x <;> first | cases h | skip
      rename_i q _ _
      cases q <;> first | cases h | skip
      exact s_or (fun e l he hm => (allEs es e he W C X G).1 l hm) (and2 h).2, fun x h => by
      unfold mtE at h
      cases x <;> first | cases h | skip
      rename_i q _ _
      cases q <;> first | cases h | skip
      exact (t_or (fun e l he hm => (allEs es e he W C X G).2.1 l hm) (and2 h).2).pt, fun x h => by
      unfold mtE at h
      cases x <;> first | cases h | skip
      rename_i q _ _
      cases q <;> first | cases h | skip
      all_goals (simp at h)⟩
  | .cmp c a b => fun W C X G => ⟨fun x h => (s_cmp (allE a W C X G).1 (allE b W C X G).1 h).1, fun x h => (s_cmp (allE a W C X G).1 (allE b W C X G).1 h).2, fun x h tg => pi_val (s_cmp (allE a W C X G).1 (allE b W C X G).1 h).1⟩
  | .chn c d a b g => fun W C X G => ⟨fun x h => (s_chn (allE a W C X G).1 (allE b W C X G).1 (allE g W C X G).1 h).1, fun x h => (s_chn (allE a W C X G).1 (allE b W C X G).1 (allE g W C X G).1 h).2, fun x h tg => pi_val (s_chn (allE a W C X G).1 (allE b W C X G).1 (allE g W C X G).1 h).1⟩
  | .ite c a b => ok3_plain (fun C x h => by unfold mtE at h; cases x <;> first | cases h | skip; all_goals (simp at h)) fun W C X m G x h => s_ite (allE c W C X G).2.1 (allE a W C X G).1 (allE b W C X G).1 h
  | .tup es => ok3_plain (fun C x h => by unfold mtE at h; cases x <;> first | cases h | rfl) fun W C X m G x h => s_tup (fun e he => (allEs es e he W C X G).1) h
  | .lst es => ok3_plain (fun C x h => by unfold mtE at h; cases x <;> first | cases h | rfl) fun W C X m G x h => s_lst (fun e he => (allEs es e he W C X G).1) h
  | .fn f es => ok3_plain (fun C x h => by unfold mtE at h; cases x <;> first | cases h | rfl) fun W C X m G x h => s_fn G (fun e he => (allEs es e he W C X G).1) h
  | .fnk f es ns p => ok3_plain (fun C x h => by unfold mtE at h; cases x <;> first | cases h | rfl) fun W C X m G x h => s_fnk G (fun e he => (allEs es e he W C X G).1) h
  | .b1 f a => ok3_plain (fun C x h => by unfold mtE at h; cases x <;> first | cases h | rfl) fun W C X m G x h => s_b1 G (allE a W C X G).1 h
  | .b2 f a b => ok3_plain (fun C x h => by unfold mtE at h; cases x <;> first | cases h | rfl) fun W C X m G x h => s_b2 G (allE a W C X G).1 (allE b W C X G).1 h
  | .bq f a => ok3_plain (fun C x h => by unfold mtE at h; cases x <;> first | cases h | rfl) fun W C X m G x h => s_bq G (allE a W C X G).1 h
  | .rng es => fun W C X G => ⟨fun x h => by
      simp only [mtE] at h
      split at h <;> first | cases h | skip
      all_goals (simp at h), fun x h => by
      simp only [mtE] at h
      split at h <;> first | cases h | skip
      all_goals (simp at h), fun x h tg => pi_rng G (fun e he => (allEs es e he W C X G).1) h⟩
  | .lrg es => ok3_plain (fun C x h => by unfold mtE at h; cases x <;> first | cases h | rfl) fun W C X m G x h => s_lrg G (fun e he => (allEs es e he W C X G).1) h
  | .idx a b => ok3_plain (fun C x h => by unfold mtE at h; cases x <;> first | cases h | rfl) fun W C X m G x h => s_idx (allE a W C X G).1 (allE b W C X G).1 h
  | .slc a lo hi => ok3_plain (fun C x h => by unfold mtE at h; cases x <;> first | cases h | rfl) fun W C X m G x h => s_slc (allE a W C X G).1 (allE lo W C X G).1 (allE hi W C X G).1 h
  | .lc elt tg it own => ok3_plain (fun C x h => by unfold mtE at h; cases x <;> first | cases h | rfl) fun W C X m G x h => s_lc G (fun l hl tg' => (allE it W C X G).2.2 l hl tg') (fun C' X' G' => (allE elt WF C' X' G').1) h
theorem allEs : ∀ (es : Es) (e : E), EsHas es e → Ok3 T xc o k e
  | .nil, e, h => nomatch h
  | .cons a r, e, h => match h with
    | .head => allE a
    | .tail h => allEs r e h
end
end
end Mi

/-! # Statements -/
namespace Mi
open PySem L2
section
variable {T : Tab} {xc : XcT} {o : Orc} {W : WX} {k : Nat} {C : SC} {X : Cx}
theorem rdP_of_rdE {K : PySem.W.Frag} {e : E} {σ : St} {H : Hp} {Q : VK} : rdE K xc o W e σ H Q → rdP K xc o W e σ H Q := by
  rintro ⟨φ, μ, env, s, rs, re, h⟩
  refine ⟨φ, μ, env, s, rs, re, Fin.bind (r := ev o e env s) h fun p s' φ' μ' H' v l rs' rl h' => ?_⟩
  cases p with
  | val d => exact h'.here rs' rl
  | new xs =>
    obtain ⟨a, vs, e1, h1, n1, n2, r⟩ := rl
    obtain ⟨p1, p2⟩ := rs'.place h1 n1 n2 r
    exact h' _ _ _ _ Le.grow p1 (e1 ▸ mk_loc p2)
  | rg xs => exact rl.elim
/-- a value is bound: what is read of the rest -/
theorem asg_rd {K : PySem.W.Frag} {e : E} {tg : Tg} {D : Ends} {σ : St} {H : Hp} (h : rdS K xc o W (.asg tg e) D σ H) : rdE K xc o W e σ H fun v H1 => gB K tg v σ H1 D.nx := by
  obtain ⟨φ, μ, env, s, rs, re, h⟩ := h
  simp only [evS] at h
  refine ⟨φ, μ, env, s, rs, re, FinS.bind re h fun d s' φ' μ' H' v l rs' rd h' => ?_⟩
  cases q : bindTg tg d env with
  | none => rw [q] at h'; exact h'.elim
  | some env' =>
    rw [q] at h'
    exact ⟨φ', μ', env, d, env', re.up l, rd, q, fun σ' re' _ => h' φ' μ' H' σ' Le.refl rs' re'⟩
theorem gB_nm {K : PySem.W.Frag} {i : Nat} {v : V} {σ : St} {H : Hp} {Q : St → Hp → Prop} (h : gB K (.nm i) v σ H Q) : gName i v σ H Q := by
  obtain ⟨φ, μ, env, d, env', re, rd, e, q⟩ := h
  cases e
  exact q _ (re.set rd) fun j hj => List.getElem?_set_ne fun (z : i = j) => hj (by subst z; exact List.mem_cons_self)
theorem swapped_none {tg e : Expr} {env : PySem.Env} (h : (∀ ts k p, tg ≠ .Tuple ts k p) ∧ (∀ ts p, tg ≠ .List ts p) ∨ ∀ vs k p, e ≠ .Tuple vs k p) : swappedStores [tg] e env = pure none := by
  rcases h with ⟨h1, h2⟩ | h
  · cases tg <;> first | rfl | exact (h1 _ _ _ rfl).elim | exact (h2 _ _ rfl).elim
  · cases e <;> first | exact (h _ _ _ rfl).elim | (cases tg <;> rfl)
theorem tg_each {tg : Tg} {e : Expr} {env : PySem.Env} (h : mtTg C tg e = true) : (assignEach [e] env).map (·.2) = [assign e env] := by
  cases tg <;> cases e <;> first | (unfold mtTg at h; cases h; done) | rfl
theorem s_asg {tg : Tg} {e : E} {st : Stmt} (G : Good T xc o W k C X) (h : mtS T C (.asg tg e) st = true) : PS X st (rdS X.K xc o W (.asg tg e)) := by
  simp only [mtS] at h
  split at h <;> first | cases h | skip
  rename_i tg' e' pos
  obtain ⟨h1, h2, h3⟩ := and3 h
  have he := (allE (T := T) (xc := xc) (o := o) (k := k) e W C X G).1 e' h1
  have hN : X.N.Nodup := by rw [G.N]; exact G.nd
  split at h3
  · rename_i i y py elt gs scope lp
    simp only [Bool.and_eq_true, Bool.not_eq_true'] at h3
    obtain ⟨⟨⟨⟨c1, c2⟩, c3⟩, c4⟩, c5⟩ := h3
    have c1 := of_decide_eq_true c1
    have c2 := of_decide_eq_true c2
    have c3 : C.sc.names.lookup y = some .local := of_decide_eq_true c3
    cases e <;> first | (simp only [mtE] at h1; cases h1; done) | skip
    rename_i elt0 tg0 it0 own0
    simp only [mtE] at h1
    split at h1 <;> first | cases h1 | skip
    rename_i elt' tg' it' scope' pos' heq
    injection heq with q1 q2 q3 q4
    subst q1 q2 q3 q4
    simp only [Bool.and_eq_true] at h1
    obtain ⟨⟨⟨⟨⟨h1, h2⟩, h3⟩, h4⟩, h5⟩, h6⟩ := h1
    have hown : (own0.map fun i => (C.N.getD i "", i)).map (·.2) = own0 := by
      rw [List.map_map]
      exact List.map_id' own0
    have ok : BlkOk X.N X.env.scope scope (own0.map fun i => (C.N.getD i "", i)) := by
      rw [G.N, G.sc]
      exact blkOk_by h1
    have hyl : X.env.scope.names.lookup y = some .local := by rw [G.sc]; exact c3
    refine PS.imp (ps_setLc (g := gB X.K tg0) (tt := tYes) (te := rdE X.K xc o WF elt0) (i := i) G.calm hN (by rw [G.N]; exact c2) hyl (sw_true (by rw [G.sc]; exact c1) hyl c4 c5)
      ((allE (T := T) (xc := xc) (o := o) (k := k) it0 W C X G).2.2 it' h2 tg') ok (fun s H A cl fp => pg_tg (Good.n (Good.blk G)) h4) (fun _ _ _ _ _ => pts_nil)
      (fun s H A cl fp => to_E ((allE (T := T) (xc := xc) (o := o) (k := k) elt0 WF _ _ (Good.blk G)).1 _ h6)) (fun x => folded_none h3)) fun D σ H hh => ?_
    rw [hown]
    have h7 := rdP_of_rdE (asg_rd hh)
    refine lc_rd h5 ?_
    obtain ⟨φ, μ, env, s, rs, re, h8⟩ := h7
    refine ⟨φ, μ, env, s, rs, re, ?_⟩
    revert h8
    generalize ev o _ env s = r
    intro h8
    cases r with
    | no => exact h8
    | ex c d s' => exact h8
    | ok p s' => exact fun φ' μ' H' b l rs' rl => gB_nm (h8 φ' μ' H' b l rs' rl)
  · cases h3
  · rename_i n1 n2
    have hsw : swapsWithSole [tg'] e' pos.line X.env = pure false := swaps_none h3
    have hst : swappedStores [tg'] e' X.env = pure none := by
      cases tg with
      | nm i =>
        cases tg' <;> first | (unfold mtTg at h2; cases h2; done) | skip
        exact swapped_none (.inl ⟨fun _ _ _ z => (nomatch z), fun _ _ z => (nomatch z)⟩)
      | tp is =>
        refine swapped_none (.inr fun vs kk p z => ?_)
        subst z
        exact n1 is vs kk p rfl rfl
    exact PS.imp (ps_asg (to_E he) (pg_tg G.n h2) hsw hst (tg_each h2)) fun D σ H hh => asg_rd hh
theorem sub_assign {o i : Expr} {pos : Pos} {env : PySem.Env} (h : notSlice i = true) : ∀ v, assign (.Subscript o i pos) env v = (do
      let ov ← holding [v] (eval o env)
      let iv ← holding [v, ov] (eval i env)
      standAt pos
      holding [v, ov, iv] (setItem ov iv v)
      release [v, ov, iv] []) := by
  intro v
  cases i <;> first | rfl | cases h
theorem s_sto {a i e : E} {st : Stmt} (G : Good T xc o W k C X) (h : mtS T C (.sto a i e) st = true) : PS X st (rdS X.K xc o W (.sto a i e)) := by
  simp only [mtS] at h
  split at h <;> first | cases h | skip
  rename_i a' i' sp e' pos
  simp only [Bool.and_eq_true] at h
  obtain ⟨⟨⟨⟨h1, h2⟩, h3⟩, h4⟩, h5⟩ := h
  have he := to_E ((allE (T := T) (xc := xc) (o := o) (k := k) e W C X G).1 e' h1)
  have ha := to_E ((allE (T := T) (xc := xc) (o := o) (k := k) a W C X G).1 a' h2)
  have hi := to_E ((allE (T := T) (xc := xc) (o := o) (k := k) i W C X G).1 i' h3)
  have hsw : swapsWithSole [a'.Subscript i' sp] e' pos.line X.env = pure false := by unfold swapsWithSole; exact swaps_none h4
  refine PS.imp (ps_asg he (pg_sub ha hi set_list (sub_assign h5)) hsw (swapped_none (.inl ⟨fun _ _ _ z => (nomatch z), fun _ _ z => (nomatch z)⟩)) rfl) fun D σ H => ?_
  rintro ⟨φ, μ, env, s, rs, re, h⟩
  simp only [evS] at h
  refine ⟨φ, μ, env, s, rs, re, FinS.bind re h fun d s1 φ1 μ1 H1 v l1 rs1 rd1 h1 => ?_⟩
  refine ⟨φ1, μ1, env, s1, rs1, re.up l1, FinS.bind (re.up l1) h1 fun x s2 φ2 μ2 H2 v2 l2 rs2 rd2 h2 => ?_⟩
  refine ⟨φ2, μ2, env, s2, rs2, (re.up l1).up l2, FinS.bind ((re.up l1).up l2) h2 fun y s3 φ3 μ3 H3 v3 l3 rs3 rd3 h3 => ?_⟩
  cases x <;> first | exact h3.elim | skip
  rename_i n
  cases y <;> first | exact h3.elim | skip
  rename_i j
  simp only at h3
  cases q : s3[n]? with
  | none => rw [q] at h3; exact h3.elim
  | some c =>
    rw [q] at h3
    cases c with
    | lst xs =>
      simp only at h3
      by_cases hj : 0 ≤ j ∧ j.toNat < xs.length
      · rw [if_pos hj] at h3
        obtain ⟨p, rfl, hp⟩ := relD_loc rd2
        have hp' := get_pre l3.pl hp
        obtain ⟨vs, g1, g2⟩ := rs3.cell n _ p q hp'
        rw [relD_int rd3]
        have hd : RelD X.K φ3 μ3 H3 d v := (rd1.up l2).up l3
        have lw := Le.write (o := .lst (vs.set j.toNat v)) rs3 hp' g1 (fun _ z => (nomatch z)) (fun _ _ z => (nomatch z))
        refine ⟨p, vs, j, j.toNat, rfl, rfl, g1, ?_, ?_⟩
        · unfold ixN
          rw [if_pos hj.1, if_pos (by have := g2.length; omega)]
        · have hc : RelC X.K φ3 μ3 (upd H3 p (.lst (vs.set j.toNat v))) (.lst (xs.set j.toNat d)) p := ⟨_, upd_same, (g2.set hd j.toNat).up lw⟩
          exact h3 φ3 μ3 _ σ lw (RelS.write rs3 hp' g1 (fun _ z => (nomatch z)) (fun _ _ z => (nomatch z)) hc) ((((re.up l1).up l2).up l3).up lw)
      · rw [if_neg hj] at h3; exact h3.elim
theorem setAll2 {env env' : Env} {i j : Nat} {ds : List D} (h : setAll env [i, j] ds = some env') : ∃ a b, ds = [a, b] ∧ env' = (env.set i (some a)).set j (some b) := by
  match ds, h with
  | [], h => cases h
  | [a], h => cases h
  | [a, b], h => cases h; exact ⟨a, b, rfl, rfl⟩
  | _ :: _ :: _ :: _, h => cases h
theorem setAll3 {env env' : Env} {i j l : Nat} {ds : List D} (h : setAll env [i, j, l] ds = some env') : ∃ a b c, ds = [a, b, c] ∧ env' = ((env.set i (some a)).set j (some b)).set l (some c) := by
  match ds, h with
  | [], h => cases h
  | [a], h => cases h
  | [a, b], h => cases h
  | [a, b, c], h => cases h; exact ⟨a, b, c, rfl, rfl⟩
  | _ :: _ :: _ :: _ :: _, h => cases h
/-- the tuple is made, then taken apart -/
theorem par_gen {is : List Nat} {es : Es} {ts vs : List Expr} {k1 k2 : Nat} {p1 p2 pos : Pos} (G : Good T xc o W k C X) (h1 : mtEs T C es vs = true) (h2 : mtNms C is ts = true) (h3 : is.length ≤ 100) (h4 : swp C.sc ts vs = some none) :
    PS X (.Assign [.Tuple ts k1 p1] (.Tuple vs k2 p2) pos) (rdS X.K xc o W (.par is es)) := by
  have ht : PE X (.Tuple vs k2 p2) (rdP X.K xc o W (.tup es)) := (allE (T := T) (xc := xc) (o := o) (k := k) (.tup es) W C X G).1 _ (by simp only [mtE]; exact h1)
  have hg : PG X (.Tuple ts k1 p1) (gB X.K (.tp is)) := pg_tg (C := C) G.n (by unfold mtTg; exact h2)
  refine PS.imp (ps_asg ht hg rfl (swp_ok h4 G.sc) rfl) fun D σ H => ?_
  rintro ⟨φ, μ, env, s, rs, re, h⟩
  refine ⟨φ, μ, env, s, rs, re, ?_⟩
  simp only [evS] at h
  simp only [ev]
  revert h
  generalize evs o es env s = r
  intro h
  cases r with
  | no => exact h.elim
  | ex c d s' => exact fun φ' μ' H' cls dx l rs' rx => h φ' μ' H' σ cls dx l rs' (re.up l) rx
  | ok ds s' =>
    replace h : FinS X.K xc W φ μ H (match setAll env is ds with | some env' => .ok .nxt env' s' | none => .no) D := h
    cases q : setAll env is ds with
    | none => rw [q] at h; exact h.elim
    | some env' =>
      rw [q] at h
      have hl := setAll_len q
      simp only [R.bind_ok]
      rw [if_pos (by rw [hl]; exact Nat.le_trans h3 (by decide))]
      exact fun φ' μ' H' b l rs' rl => ⟨φ', μ', env, .tup ds, env', re.up l, rl, q, fun σ' re' _ => h φ' μ' H' σ' l rs' re'⟩
theorem s_par {is : List Nat} {es : Es} {st : Stmt} (G : Good T xc o W k C X) (h : mtS T C (.par is es) st = true) : PS X st (rdS X.K xc o W (.par is es)) := by
  simp only [mtS] at h
  split at h <;> first | cases h | skip
  rename_i ts k1 p1 vs k2 p2 pos
  obtain ⟨h1, h2, h3, h4⟩ := and4 h
  have h3 := of_decide_eq_true h3
  have hN : X.N.Nodup := by rw [G.N]; exact G.nd
  have pa := s_es (T := T) (xc := xc) (o := o) (W := W) (C := C) (X := X) (fun e he => (allE (T := T) (xc := xc) (o := o) (k := k) e W C X G).1) h1
  split at h4
  · rename_i i j x px y py a b _
    simp only [Bool.or_eq_true, Bool.and_eq_true] at h4
    rcases h4 with h4 | ⟨⟨⟨h4, c1⟩, c2⟩, c3⟩
    · exact par_gen G h1 h2 h3 (of_decide_eq_true h4)
    · have n1 := of_decide_eq_true h4
      unfold mtNms at h2
      obtain ⟨m1, h2⟩ := and2 h2
      unfold mtNms at h2
      obtain ⟨m2, _⟩ := and2 h2
      unfold nmIs at m1 m2
      refine PS.imp (ps_par G.calm hN (by rw [G.N]; exact of_decide_eq_true (and2 m1).1) (by rw [G.N]; exact of_decide_eq_true (and2 m2).1) (of_decide_eq_true c3) (by rw [G.sc]; exact of_decide_eq_true c1) (by rw [G.sc]; exact of_decide_eq_true c2) pa (swp_ok n1 G.sc) rfl) fun D σ H => ?_
      rintro ⟨φ, μ, env, s, rs, re, h⟩
      simp only [evS] at h
      refine ⟨φ, μ, env, s, rs, re, FinS.bind re h fun ds s' φ' μ' H' vs l rs' rl h' => ?_⟩
      cases q : setAll env [i, j] ds with
      | none => rw [q] at h'; exact h'.elim
      | some env' =>
        rw [q] at h'
        obtain ⟨d1, d2, rfl, rfl⟩ := setAll2 q
        obtain ⟨v1, r1, rfl, g1, g2⟩ := rl.of_cons
        obtain ⟨v2, r2, rfl, g3, g4⟩ := g2.of_cons
        have e0 := g4.of_nil
        subst e0
        exact ⟨v1, v2, rfl, h' φ' μ' H' _ Le.refl rs' (((re.up l).set g1).set g3)⟩
  · rename_i i j l x px y py z pz a b c _
    simp only [Bool.or_eq_true, Bool.and_eq_true] at h4
    rcases h4 with h4 | ⟨⟨⟨⟨⟨⟨h4, c1⟩, c2⟩, c3⟩, c4⟩, c5⟩, c6⟩
    · exact par_gen G h1 h2 h3 (of_decide_eq_true h4)
    · have n1 := of_decide_eq_true h4
      unfold mtNms at h2
      obtain ⟨m1, h2⟩ := and2 h2
      unfold mtNms at h2
      obtain ⟨m2, h2⟩ := and2 h2
      unfold mtNms at h2
      obtain ⟨m3, _⟩ := and2 h2
      unfold nmIs at m1 m2 m3
      refine PS.imp (ps_par3 G.calm hN (by rw [G.N]; exact of_decide_eq_true (and2 m1).1) (by rw [G.N]; exact of_decide_eq_true (and2 m2).1) (by rw [G.N]; exact of_decide_eq_true (and2 m3).1) (of_decide_eq_true c4) (of_decide_eq_true c5) (of_decide_eq_true c6)
        (by rw [G.sc]; exact of_decide_eq_true c1) (by rw [G.sc]; exact of_decide_eq_true c2) (by rw [G.sc]; exact of_decide_eq_true c3) pa (swp_ok n1 G.sc) rfl) fun D σ H => ?_
      rintro ⟨φ, μ, env, s, rs, re, h⟩
      simp only [evS] at h
      refine ⟨φ, μ, env, s, rs, re, FinS.bind re h fun ds s' φ' μ' H' vs ll rs' rl h' => ?_⟩
      cases q : setAll env [i, j, l] ds with
      | none => rw [q] at h'; exact h'.elim
      | some env' =>
        rw [q] at h'
        obtain ⟨d1, d2, d3, rfl, rfl⟩ := setAll3 q
        obtain ⟨v1, r1, rfl, g1, g2⟩ := rl.of_cons
        obtain ⟨v2, r2, rfl, g3, g4⟩ := g2.of_cons
        obtain ⟨v3, r3, rfl, g5, g6⟩ := g4.of_cons
        have e0 := g6.of_nil
        subst e0
        exact ⟨v1, v2, v3, rfl, h' φ' μ' H' _ Le.refl rs' ((((re.up ll).set g1).set g3).set g5)⟩
  · exact par_gen G h1 h2 h3 (of_decide_eq_true h4)
end
end Mi

/-! # All statements -/
namespace Mi
open PySem L2
section
variable {T : Tab} {xc : XcT} {o : Orc} {W : WX} {k : Nat} {C : SC} {X : Cx}
/-- the ends of a loop's body -/
theorem loop_ends {K : PySem.W.Frag} {φ : Fz} {μ : List Addr} {H : Hp} {r : RS} {D : Ends} {N : St → Hp → Prop} {g : Env → Sto → RS} (h : FinS K xc W φ μ H (match r with
      | .ok .nxt env' s' => g env' s'
      | .ok .cnt env' s' => g env' s'
      | .ok .brk env' s' => .ok .nxt env' s'
      | .ok (.ret v) env' s' => .ok (.ret v) env' s'
      | .ex c v env' s' => .ex c v env' s'
      | .no => .no) D)
    (hN : ∀ env' s' φ' μ' H' σ', Le K φ μ H φ' μ' H' → RelS K φ' μ' H' s' → RelE K φ' μ' H' env' σ' → FinS K xc W φ' μ' H' (g env' s') D → N σ' H') : FinS K xc W φ μ H r { D with nx := N, ct := N, bk := D.nx } := by
  cases r with
  | no => exact h
  | ex c v env' s' => exact h
  | ok f env' s' =>
    cases f with
    | nxt => exact fun φ' μ' H' σ' l rs' re' => hN env' s' φ' μ' H' σ' l rs' re' (FinS.up l h)
    | cnt => exact fun φ' μ' H' σ' l rs' re' => hN env' s' φ' μ' H' σ' l rs' re' (FinS.up l h)
    | brk => exact h
    | ret v => exact h
theorem s_whl {c : E} {b : Ss} {x : Expr} {y : List Stmt} {pos : Pos} (G : Good T xc o W k C X) (hc : PT X x (rdT X.K xc o W c)) (hb : PSs X y (rdSs X.K xc o W b)) : PS X (.While x y [] pos) (rdS X.K xc o W (.whl c b)) := by
  refine PS.imp (ps_while G.own hc hb) fun D σ H => ?_
  rintro ⟨φ, μ, env, s, rs, re, h⟩
  simp only [evS] at h
  have hn : whl (fun env s => tst o c env s) (fun env s => evSs o b env s) env s ≠ .no := fun z => by rw [z] at h; exact h
  obtain ⟨n, e⟩ := whl_fuel hn
  refine ⟨fun n σ H => ∃ φ μ env s, RelS X.K φ μ H s ∧ RelE X.K φ μ H env σ ∧ FinS X.K xc W φ μ H (whlN (fun env s => tst o c env s) (fun env s => evSs o b env s) n env s) D, ⟨n, φ, μ, env, s, rs, re, by rw [e]; exact h⟩, ?_⟩
  rintro m σ1 H1 ⟨φ1, μ1, env1, s1, rs1, re1, h1⟩
  cases m with
  | zero => exact h1.elim
  | succ m =>
    refine ⟨φ1, μ1, env1, s1, rs1, re1, ?_⟩
    unfold whlN at h1
    revert h1
    generalize tst o c env1 s1 = r
    intro h1
    cases r with
    | no => exact h1
    | ex cl v s' => exact fun φ' μ' H' cls dx l rs' rx => h1 φ' μ' H' σ1 cls dx l rs' (re1.up l) rx
    | ok t s2 =>
      intro φ2 μ2 H2 bb l2 rs2 rb
      cases (show t = bb from rb)
      cases t with
      | false =>
        simp only [Bool.false_eq_true, if_false]
        exact h1 φ2 μ2 H2 σ1 l2 rs2 (re1.up l2)
      | true =>
        simp only [if_true]
        refine ⟨fun σ H => ∃ φ μ env s, RelS X.K φ μ H s ∧ RelE X.K φ μ H env σ ∧ FinS X.K xc W φ μ H (whlN (fun env s => tst o c env s) (fun env s => evSs o b env s) m env s) D, fun σ' H' w => ⟨m, Nat.lt_succ_self m, w⟩, φ2, μ2, env1, s2, rs2, re1.up l2, ?_⟩
        exact loop_ends (FinS.up l2 h1) fun env' s' φ' μ' H' σ' l rs' re' h' => ⟨φ', μ', env', s', rs', re', h'⟩
theorem s_fr {tg : Tg} {it : E} {b : Ss} {tx ix : Expr} {y : List Stmt} {pos : Pos} (G : Good T xc o W k C X) (hi : PI X tx ix (rdI X.K xc o W it)) (h3 : notSet ix = true) (hg : PG X tx (gB X.K tg)) (hb : PSs X y (rdSs X.K xc o W b)) : PS X (.For tx ix y [] pos) (rdS X.K xc o W (.fr tg it b)) := by
  refine PS.imp (ps_for G.own G.calm hi hg hb (fun x => folded_none h3)) fun D σ H => ?_
  rintro ⟨φ, μ, env, s, rs, re, h⟩
  simp only [evS] at h
  refine ⟨φ, μ, env, s, rs, re, FinS.bind re h fun src s0 φ0 μ0 H0 J l0 rs0 rj h => ?_⟩
  refine ⟨fun i m σ H => ∃ φ μ env s, RelS X.K φ μ H s ∧ RelE X.K φ μ H env σ ∧ Le X.K φ0 μ0 H0 φ μ H ∧ FinS X.K xc W φ μ H (turnsG (turnF tg fun env s => evSs o b env s) src m i env s) D, ⟨srcLen src, φ0, μ0, env, s0, rs0, re.up l0, Le.refl, h⟩, ?_⟩
  rintro i m σ1 H1 ⟨φ1, μ1, env1, s1, rs1, re1, l1, h1⟩
  obtain ⟨t1, t2⟩ := relI_step rj l1 rs1
  cases m with
  | zero =>
    simp only [turnsG] at h1
    by_cases he : srcEnd src i s1 = true
    · rw [if_pos he] at h1
      exact .inl ⟨t2 he, h1 φ1 μ1 H1 σ1 Le.refl rs1 re1⟩
    · rw [if_neg he] at h1; exact h1.elim
  | succ m =>
    simp only [turnsG] at h1
    cases q : srcGet src i s1 with
    | none => rw [q] at h1; exact h1.elim
    | some d =>
      rw [q] at h1
      simp only at h1
      obtain ⟨g1, g2⟩ := t1 d q
      refine .inr ⟨g1, fun σ H => ∃ φ μ env s, RelS X.K φ μ H s ∧ RelE X.K φ μ H env σ ∧ Le X.K φ0 μ0 H0 φ μ H ∧ FinS X.K xc W φ μ H (turnsG (turnF tg fun env s => evSs o b env s) src m (i + 1) env s) D, fun σ' H' w => ⟨m, Nat.lt_succ_self m, w⟩, fun x H'' y => ?_⟩
      obtain ⟨y1, y2, y3⟩ := g2 x H'' y
      unfold turnF at h1
      cases qb : bindTg tg d env1 with
      | none => rw [qb] at h1; exact h1.elim
      | some env' =>
        rw [qb] at h1
        refine ⟨φ1, μ1, env1, d, env', re1.up y1, y3, qb, fun σ' re' _ => ⟨φ1, μ1, env', s1, y2, re', ?_⟩⟩
        exact loop_ends (FinS.up y1 h1) fun env2 s2 φ2 μ2 H2 σ2 l2 rs2 re2 h2 => ⟨φ2, μ2, env2, s2, rs2, re2, (l1.trans y1).trans l2, h2⟩
mutual
theorem allS : ∀ (st : S) (W : WX) (C : SC) (X : Cx), Good T xc o W k C X → ∀ x, mtS T C st x = true → PS X x (rdS X.K xc o W st)
  | .asg tg e, W, C, X, G, x, h => s_asg G h
  | .sto a i e, W, C, X, G, x, h => s_sto G h
  | .par is es, W, C, X, G, x, h => s_par G h
  | .expr e, W, C, X, G, x, h => by
    simp only [mtS] at h
    split at h <;> first | cases h | skip
    rename_i e' pos
    obtain ⟨h1, h2⟩ := and2 h
    refine PS.imp (ps_expr (to_E ((allE (T := T) (xc := xc) (o := o) (k := k) e W C X G).1 e' h1)) (swaps_none h2)) fun D σ H => ?_
    rintro ⟨φ, μ, env, s, rs, re, h⟩
    simp only [evS] at h
    exact ⟨φ, μ, env, s, rs, re, FinS.bind re h fun d s' φ' μ' H' v l rs' rd h' => h' φ' μ' H' σ Le.refl rs' (re.up l)⟩
  | .ret e, W, C, X, G, x, h => by
    simp only [mtS] at h
    split at h <;> first | cases h | skip
    rename_i e' pos
    refine PS.imp (ps_ret (to_E ((allE (T := T) (xc := xc) (o := o) (k := k) e W C X G).1 e' h))) fun D σ H => ?_
    rintro ⟨φ, μ, env, s, rs, re, h⟩
    simp only [evS] at h
    exact ⟨φ, μ, env, s, rs, re, FinS.bind re h fun d s' φ' μ' H' v l rs' rd h' => h' φ' μ' H' σ Le.refl rs' (re.up l) v rd⟩
  | .pass, W, C, X, G, x, h => by
    simp only [mtS] at h
    split at h <;> first | cases h | skip
    refine PS.imp ps_pass fun D σ H => ?_
    rintro ⟨φ, μ, env, s, rs, re, h⟩
    simp only [evS] at h
    exact h φ μ H σ Le.refl rs re
  | .brk, W, C, X, G, x, h => by
    simp only [mtS] at h
    split at h <;> first | cases h | skip
    refine PS.imp ps_break fun D σ H => ?_
    rintro ⟨φ, μ, env, s, rs, re, h⟩
    simp only [evS] at h
    exact h φ μ H σ Le.refl rs re
  | .cnt, W, C, X, G, x, h => by
    simp only [mtS] at h
    split at h <;> first | cases h | skip
    refine PS.imp ps_continue fun D σ H => ?_
    rintro ⟨φ, μ, env, s, rs, re, h⟩
    simp only [evS] at h
    exact h φ μ H σ Le.refl rs re
  | .iff c a b, W, C, X, G, x, h => by
    simp only [mtS] at h
    split at h <;> first | cases h | skip
    rename_i c' a' b' pos
    obtain ⟨h1, h2, h3⟩ := and3 h
    refine PS.imp (ps_if ((allE (T := T) (xc := xc) (o := o) (k := k) c W C X G).2.1 c' h1) (allSs a W C X G a' h2) (allSs b W C X G b' h3)) fun D σ H => ?_
    rintro ⟨φ, μ, env, s, rs, re, h⟩
    simp only [evS] at h
    refine ⟨φ, μ, env, s, rs, re, FinS.bind re h fun t s' φ' μ' H' v l rs' rd h' => ?_⟩
    cases (show t = v from rd)
    cases t with
    | true => rw [if_pos rfl] at h' ⊢; exact ⟨φ', μ', env, s', rs', re.up l, h'⟩
    | false => rw [if_neg (by decide)] at h' ⊢; exact ⟨φ', μ', env, s', rs', re.up l, h'⟩
  | .whl c b, W, C, X, G, x, h => by
    simp only [mtS] at h
    split at h <;> first | cases h | skip
    rename_i c' b' pos
    obtain ⟨h1, h2⟩ := and2 h
    exact s_whl G ((allE (T := T) (xc := xc) (o := o) (k := k) c W C X G).2.1 c' h1) (allSs b W C X G b' h2)
  | .fr tg it b, W, C, X, G, x, h => by
    simp only [mtS] at h
    split at h <;> first | cases h | skip
    rename_i tg' it' b' pos
    obtain ⟨h1, h2, h3, h4⟩ := and4 h
    exact s_fr G ((allE (T := T) (xc := xc) (o := o) (k := k) it W C X G).2.2 it' h1 tg') h2 (pg_tg G.n h3) (allSs b W C X G b' h4)
  | .rais c e, W, C, X, G, x, h => PS.imp ps_never fun D σ H => by
    rintro ⟨φ, μ, env, s, rs, re, h⟩
    simp only [evS] at h
    exact h.elim
theorem allSs : ∀ (st : Ss) (W : WX) (C : SC) (X : Cx), Good T xc o W k C X → ∀ x, mtSs T C st x = true → PSs X x (rdSs X.K xc o W st)
  | .nil, W, C, X, G, x, h => by
    cases x with
    | cons _ _ => unfold mtSs at h; cases h
    | nil =>
      refine ⟨fun pins s σ H D I q => pss_nil.run pins s σ H D I ?_⟩
      obtain ⟨φ, μ, env, s, rs, re, h⟩ := q
      simp only [evSs] at h
      exact h φ μ H σ Le.refl rs re
  | .cons st r, W, C, X, G, x, h => by
    cases x with
    | nil => unfold mtSs at h; cases h
    | cons l ls =>
      unfold mtSs at h
      obtain ⟨h1, h2⟩ := and2 h
      refine PSs.imp (pss_cons (allS st W C X G l h1) (allSs r W C X G ls h2)) fun D σ H => ?_
      rintro ⟨φ, μ, env, s, rs, re, h⟩
      simp only [evSs] at h
      refine ⟨φ, μ, env, s, rs, re, ?_⟩
      revert h
      generalize evS o st env s = q
      intro h
      cases q with
      | no => exact h
      | ex c v env' s' => exact h
      | ok f env' s' =>
        cases f with
        | nxt => exact fun φ' μ' H' σ' l rs' re' => ⟨φ', μ', env', s', rs', re', FinS.up l h⟩
        | brk => exact h
        | cnt => exact h
        | ret d => exact h
end
end
end Mi

/-! # Functions -/
namespace Mi
open PySem PySem.Spec PyProof.Rows L2
/-! ### what a call made is forgotten -/
section
variable {K : PySem.W.Frag} {φ φ' : Fz} {μ μ' : List Addr} {H H' : Hp}
mutual
theorem RelD.und : ∀ {d : D} {v : V}, RelD K φ μ H d v → d.und μ.length = true
  | .non, _, _ => rfl
  | .bl _, _, _ => rfl
  | .int _, _, _ => rfl
  | .str _, _, _ => rfl
  | .tup ds, _, h => by
    unfold RelD at h
    obtain ⟨a, vs, _, _, h2⟩ := h
    unfold D.und
    exact RelL.und h2
  | .flst ds, _, h => by
    unfold RelD at h
    obtain ⟨a, vs, _, _, h2⟩ := h
    unfold D.und
    exact RelL.und h2
  | .loc n, _, h => by
    unfold RelD at h
    obtain ⟨a, _, h1⟩ := h
    unfold D.und
    exact decide_eq_true (List.getElem?_eq_some_iff.mp h1).1
theorem RelL.und : ∀ {ds : List D} {vs : List V}, RelL K φ μ H ds vs → D.undL μ.length ds = true
  | [], _, _ => rfl
  | d :: ds, _, h => by
    unfold RelL at h
    obtain ⟨v, r, _, h1, h2⟩ := h
    unfold D.undL
    rw [RelD.und h1, RelL.und h2]
    rfl
end
mutual
theorem RelD.cut {n : Nat} : ∀ {d : D} {v : V}, d.und n = true → RelD K φ μ H d v → RelD K φ (μ.take n) H d v
  | .non, _, _, h => by unfold RelD at h ⊢; exact h
  | .bl _, _, _, h => by unfold RelD at h ⊢; exact h
  | .int _, _, _, h => by unfold RelD at h ⊢; exact h
  | .str _, _, _, h => by unfold RelD at h ⊢; exact h
  | .tup ds, _, u, h => by
    unfold RelD at h ⊢
    obtain ⟨a, vs, e, h1, h2⟩ := h
    exact ⟨a, vs, e, h1, RelL.cut (by unfold D.und at u; exact u) h2⟩
  | .flst ds, _, u, h => by
    unfold RelD at h ⊢
    obtain ⟨a, vs, e, h1, h2⟩ := h
    exact ⟨a, vs, e, h1, RelL.cut (by unfold D.und at u; exact u) h2⟩
  | .loc k, _, u, h => by
    unfold RelD at h ⊢
    obtain ⟨a, e, h1⟩ := h
    have hk : k < n := by unfold D.und at u; exact of_decide_eq_true u
    exact ⟨a, e, by rw [List.getElem?_take_of_lt hk]; exact h1⟩
theorem RelL.cut {n : Nat} : ∀ {ds : List D} {vs : List V}, D.undL n ds = true → RelL K φ μ H ds vs → RelL K φ (μ.take n) H ds vs
  | [], _, _, h => by unfold RelL at h ⊢; exact h
  | d :: ds, _, u, h => by
    unfold RelL at h ⊢
    obtain ⟨v, r, e, h1, h2⟩ := h
    unfold D.undL at u
    obtain ⟨u1, u2⟩ := and2 u
    exact ⟨v, r, e, RelD.cut u1 h1, RelL.cut u2 h2⟩
end
theorem RelC.cut {n : Nat} {c : Cell} {a : Addr} (u : c.und n = true) (h : RelC K φ μ H c a) : RelC K φ (μ.take n) H c a := by
  cases c with
  | lst xs =>
    obtain ⟨vs, h1, h2⟩ := h
    exact ⟨vs, h1, RelL.cut u h2⟩
theorem RelC.und {c : Cell} {a : Addr} (h : RelC K φ μ H c a) : c.und μ.length = true := by
  cases c with
  | lst xs =>
    obtain ⟨vs, h1, h2⟩ := h
    exact h2.und
/-- the places that were made are left -/
theorem RelS.cut {s s' : Sto} (rs : RelS K φ μ H s) (l : Le K φ μ H φ' μ' H') (rs' : RelS K φ' μ' H' s') (hl : s.length ≤ s'.length) (ko : KeepsOld s s') :
    RelS K φ' (μ'.take s.length) H' (s'.take s.length) ∧ Le K φ μ H φ' (μ'.take s.length) H' := by
  have hlen := rs.len
  have hlen' := rs'.len
  refine ⟨⟨rs'.nd.sublist (List.take_sublist _ _), by rw [List.length_take, List.length_take]; omega, fun n c a e1 e2 => ?_, fun p hp hm => rs'.apart p hp (List.mem_of_mem_take hm), rs'.here, rs'.one⟩,
    ⟨l.fz, ?_, l.tup, l.frz, l.set⟩⟩
  · have hn : n < s.length := by
      have := (List.getElem?_eq_some_iff.mp e1).1
      rw [List.length_take] at this
      omega
    rw [List.getElem?_take_of_lt hn] at e1 e2
    have hc := rs'.cell n c a e1 e2
    rcases ko n hn with e | ⟨c', e, u⟩
    · rw [e1] at e
      have ha : n < μ.length := by omega
      have hc0 := rs.cell n c (μ[n]) e.symm (List.getElem?_eq_getElem ha)
      have u0 := hc0.und
      rw [hlen] at u0
      exact hc.cut u0
    · rw [e1] at e
      cases e
      exact hc.cut u
  · obtain ⟨r, e⟩ := l.pl
    rw [← e, ← hlen, List.take_left]
    exact List.prefix_refl _
/-- a call's end, swept -/
theorem sweep_fin {xc : XcT} {W : WX} {σ : L2.St} {s s' : Sto} {d : D} {Q : V → Hp → Prop} (rs : RelS K φ μ H s) (h : Fin K xc W (RelD K) φ μ H σ (sweep s (.ok d s')) Q) (l : Le K φ μ H φ' μ' H') (rs' : RelS K φ' μ' H' s') {v : V} (rd : RelD K φ' μ' H' d v) : Q v H' := by
  unfold sweep at h
  simp only at h
  split at h
  · rename_i c
    obtain ⟨c1, c2, c3⟩ := c
    obtain ⟨q1, q2⟩ := rs.cut l rs' c2 c3
    -- is it a new list
    by_cases hf : freeze s.length d s' = d
    · rw [hf] at h c1
      exact h φ' _ H' v q2 q1 (rd.cut c1)
    · cases d <;> first | exact absurd rfl hf | skip
      rename_i k
      by_cases hk : k < s.length
      · exact absurd (by unfold freeze; simp only; rw [if_pos hk]) hf
      · cases e : s'[k]? with
        | none => exact absurd (by unfold freeze; simp only; rw [if_neg hk, e]) hf
        | some c =>
          cases c with
          | lst xs =>
            have ef : freeze s.length (.loc k) s' = .flst xs := by unfold freeze; simp only; rw [if_neg hk, e]
            rw [ef] at h c1
            obtain ⟨a, rfl, ha⟩ := relD_loc rd
            obtain ⟨vs, g1, g2⟩ := rs'.cell k _ a e ha
            have hm : a ∈ μ' := List.mem_of_getElem? ha
            have nt : a ∉ μ'.take s.length := fun z => by
              obtain ⟨i, hi, ei⟩ := List.mem_iff_getElem.mp z
              rw [List.getElem_take] at ei
              have hi2 : i < μ'.length := by rw [List.length_take] at hi; omega
              have hi3 : i < s.length := by rw [List.length_take] at hi; omega
              have hk2 : k < μ'.length := (List.getElem?_eq_some_iff.mp ha).1
              have ek : μ'[k] = a := (List.getElem?_eq_some_iff.mp ha).2
              exact (List.pairwise_iff_getElem.mp rs'.nd) i k hi2 hk2 (by omega) (ei.trans ek.symm)
            have na : ∀ b, (b, a) ∉ φ' := fun b hb => rs'.apart _ hb hm
            obtain ⟨p1, p2⟩ := q1.aside true (by rw [g1]; exact fun z => nomatch z) na nt
            have u : D.undL s.length xs = true := by unfold D.und at c1; exact c1
            exact h _ _ H' _ (q2.trans p2) p1 (mk_flst (.inl ⟨List.mem_cons_self, g1⟩) ((g2.cut u).up p2))
  · exact h φ' μ' H' v l rs' rd
end
/-! ### a def of the text -/
section
variable {P : Program} {w : World} {K : PySem.W.Frag} {mg : Str → Option Value} {base : Heap}
theorem FnG.of_def {k : Nat} {f : Addr} {x qual : Str} {params : Arguments} {body : List Stmt} {scope : Scope} {dvs : List V} {kws : List (Str × V)} {fd : PySem.FuncData} {N ps : List Str} {sp : Sp} (D : FunD K x qual params body scope dvs kws f fd) (S : FnScope N ps scope)
    (ln : ∀ vs H Q E, sp vs H Q E → vs.length = ps.length)
    (run : ∀ (cd : Value) (A : Around) (out : List PySem.Env) (s : Shared) (H : Hp) (vs : List V) (Q : VK) (E : XK), A.guards = some [] → Room k (A.deeper (envOfC qual scope s.heap.objs.size f cd)) → sp vs H Q E →
      ∃ t, PSs (cxOf (L2.CX P w) P w K mg base N qual scope f cd A out s H E) body t ∧ t { nx := fun _ G => Q .non G, rt := Q } (L2.start N vs) H) : FnG P w K mg base (k + 1) f fd ps sp := by
  obtain ⟨c0, o0, dV, kV, doc, pm, an, cd, ct, sl, e, look, code, _, _⟩ := D.ex
  subst e
  refine ⟨ln, fun A out s H args us vs Q E gd room ent bnd val q => ?_⟩
  have same : K.In s.heap := ent.mod.kin.keeps fun b u z => (ent.bs b u z).1
  have free : s.heap.NoLimit := ent.mod.nolimit.keeps fun b u z => (ent.bs b u z).1
  refine PySem.codeAny_call_function room.depth (same _ _ look) rfl S.co S.gen rfl (PySem.W.codeRec_of same code) (bnd _ _ _ _ (wpAny_newFunctionEnv_cells S.kind (fun ⟨n, u⟩ hn => ?_) fun en hen s2 entered => ?_))
  · exact (S.par n (List.of_mem_zip hn).1).imp id fun z => ⟨z, PySem.W.cellsFrom_some _ _ _ (.inl z)⟩
  · subst hen
    refine ⟨free.keeps entered.toInCall.keep, codeAny_func ?_⟩
    obtain ⟨t, pt, qt⟩ := run cd A out s H vs Q E gd (room.deeper _) q
    have inv := inv_start (CX := L2.CX P w) (cd := cd) (E := E) S room.hd ent (ln _ _ _ _ q) val entered
    refine wpAny_mono (pt.run [] s2 (L2.start N vs) H _ inv qt) (fun fl s3 z => ?_) fun _ _ z => z
    cases fl with
    | brk => obtain ⟨_, _, _, z⟩ := z; exact z.elim
    | cont => obtain ⟨_, _, _, z⟩ := z; exact z.elim
    | next =>
      obtain ⟨τ, G, J, z⟩ := z
      exact ⟨V.non, G, J.os, J.bare, J.base, J.hok, rfl, z⟩
    | ret u =>
      obtain ⟨v, τ, G, J, rv, z⟩ := z
      exact ⟨v, G, J.os, J.bare, J.base, J.hok, rv, z⟩
/-! ### constants of the module -/
mutual
/-- does the value stand for the tree, by what the text's objects are -/
def konB (K : PySem.W.Frag) : D → Value → Bool
  | .non, u => (match u with
    | .none => true
    | _ => false)
  | .bl b, u => (match u with
    | .bool c => b == c
    | _ => false)
  | .int i, u => (match u with
    | .int j _ => decide (i = j)
    | _ => false)
  | .str x, u => (match u with
    | .str y _ => decide (x = y)
    | _ => false)
  | .tup ds, u => (match u with
    | .ref a => (match K.lookup a with
      | some ⟨.type c, _, .seq its _, _⟩ => decide (c = "tuple") && decide (its.size ≤ sizeLine) && konL K ds its.toList
      | _ => false)
    | _ => false)
  | .flst ds, u => (match u with
    | .ref a => (match K.lookup a with
      | some ⟨.type c, none, .seq its _, _⟩ => decide (c = "list") && decide (its.size ≤ sizeLine) && konL K ds its.toList
      | _ => false)
    | _ => false)
  | .loc _, _ => false
def konL (K : PySem.W.Frag) : List D → List Value → Bool
  | [], [] => true
  | d :: ds, u :: us => konB K d u && konL K ds us
  | _, _ => false
end
mutual
theorem konB_ok {K : PySem.W.Frag} : ∀ {d : D} {u : Value}, konB K d u = true → ∃ v, RelV v u ∧ ∀ φ μ H, RelD K φ μ H d v
  | .non, u, h => by
    cases u <;> first | (unfold konB at h; cases h; done) | exact ⟨.non, rfl, fun _ _ _ => mk_non⟩
  | .bl b, u, h => by
    cases u <;> first | (unfold konB at h; cases h; done) | skip
    unfold konB at h
    exact ⟨.bl b, by rw [eq_of_beq h]; rfl, fun _ _ _ => mk_bl⟩
  | .int b, u, h => by
    cases u <;> first | (unfold konB at h; cases h; done) | skip
    unfold konB at h
    exact ⟨.int b, ⟨_, by rw [of_decide_eq_true h]⟩, fun _ _ _ => mk_int⟩
  | .str b, u, h => by
    cases u <;> first | (unfold konB at h; cases h; done) | skip
    unfold konB at h
    exact ⟨.str b, ⟨_, by rw [of_decide_eq_true h]⟩, fun _ _ _ => mk_str⟩
  | .tup ds, u, h => by
    simp only [konB] at h
    split at h <;> first | cases h | skip
    rename_i a
    split at h <;> first | cases h | skip
    rename_i c od its n sl look
    obtain ⟨h1, h2, h3⟩ := and3 h
    obtain ⟨vs, r, q⟩ := konL_ok h3
    exact ⟨.ref a, rfl, fun φ μ H => mk_tup (.inr ⟨_, its, n, look, congrArg Value.type (of_decide_eq_true h1), rfl, of_decide_eq_true h2, r⟩) (q φ μ H)⟩
  | .flst ds, u, h => by
    simp only [konB] at h
    split at h <;> first | cases h | skip
    rename_i a
    split at h <;> first | cases h | skip
    rename_i c its n sl look
    obtain ⟨h1, h2, h3⟩ := and3 h
    obtain ⟨vs, r, q⟩ := konL_ok h3
    exact ⟨.ref a, rfl, fun φ μ H => mk_flst (.inr (.inr (.inr ⟨_, its, n, look, congrArg Value.type (of_decide_eq_true h1), rfl, rfl, of_decide_eq_true h2, r⟩))) (q φ μ H)⟩
  | .loc _, _, h => by unfold konB at h; cases h
theorem konL_ok {K : PySem.W.Frag} : ∀ {ds : List D} {us : List Value}, konL K ds us = true → ∃ vs, Vals vs us ∧ ∀ φ μ H, RelL K φ μ H ds vs
  | [], [], _ => ⟨[], .nil, fun _ _ _ => .nil⟩
  | [], _ :: _, h => by unfold konL at h; cases h
  | _ :: _, [], h => by unfold konL at h; cases h
  | d :: ds, u :: us, h => by
    unfold konL at h
    obtain ⟨h1, h2⟩ := and2 h
    obtain ⟨v, r, q⟩ := konB_ok h1
    obtain ⟨vs, r2, q2⟩ := konL_ok h2
    exact ⟨v :: vs, .cons r r2, fun φ μ H => .cons (q φ μ H) (q2 φ μ H)⟩
end
/-- the module's name stands for the tree -/
def gloB (K : PySem.W.Frag) (p : Str × D) : Bool := match PySem.W.nsIn K mainGlobals p.1 with
  | some (some u) => konB K p.2 u
  | _ => false
theorem gloB_ok {K : PySem.W.Frag} {h : Heap} {mg : Str → Option Value} (X : K.In h) (G : h.Ns mainGlobals mg) {p : Str × D} (c : gloB K p = true) : ∃ u v, mg p.1 = some u ∧ RelV v u ∧ ∀ φ μ H, RelD K φ μ H p.2 v := by
  unfold gloB at c
  split at c <;> first | cases c | skip
  rename_i u e
  obtain ⟨v, r, q⟩ := konB_ok c
  exact ⟨u, v, PySem.W.mg_of X G e, r, q⟩
/-- one function of the table -/
structure FN where
  d : He.DefD
  N : List Str
  ps : List Str
  fd : FDef
  kb : List (List Str × List Nat) := []
def FN.KB1 (n : FN) (q : List Str × List Nat) : Prop := ∀ (kV doc pm : Value) (an : Option Addr) (cdv ct : Value) (us ws : List Value), us.length = q.1.length → permOf us q.2 = some ws → bindArgs (PySem.W.fnOf n.d.name n.d.qual n.d.params n.d.body n.d.scope .none kV doc pm an cdv ct) ⟨[], q.1.zip us⟩ = pure (n.ps.zip ws)
theorem kb_of {K : PySem.W.Frag} {x qual : Str} {params : Arguments} {body : List Stmt} {scope : Scope} {kws : List (Str × V)} {f : Addr} {fd : PySem.FuncData} {ps : List Str} {q : List Str × List Nat} (D : FunD K x qual params body scope [] kws f fd)
    (h : ∀ (kV doc pm : Value) (an : Option Addr) (cdv ct : Value) (us ws : List Value), us.length = q.1.length → permOf us q.2 = some ws → bindArgs (PySem.W.fnOf x qual params body scope .none kV doc pm an cdv ct) ⟨[], q.1.zip us⟩ = pure (ps.zip ws)) : KB K fd ps q := by
  obtain ⟨c0, o0, dV, kV, doc, pm, an, cd, ct, sl, e, look, code, hD, hK⟩ := D.ex
  subst e
  rcases hD with ⟨_, rfl⟩ | ⟨z, _⟩
  · exact fun s us ws _ l e => .of_eq (h kV doc pm an cd ct us ws l e)
  · exact absurd rfl z
def FN.B (n : FN) : Prop := ∀ (kV doc pm : Value) (an : Option Addr) (cdv ct : Value) (us : List Value), us.length = n.ps.length → bindArgs (PySem.W.fnOf n.d.name n.d.qual n.d.params n.d.body n.d.scope .none kV doc pm an cdv ct) ⟨us, []⟩ = pure (n.ps.zip us)
/-- what a table's row asks -/
structure FN.Ok (T : Tab) (n : FN) : Prop where
  at_ : n.d.at_.2 = none
  dfl : n.d.dfl = []
  sc : FnScope n.N n.ps n.d.scope
  mt : mtSs T ⟨n.N, n.d.scope, fun _ => true⟩ n.fd.body n.d.body = true
  nN : n.fd.names = n.N.length
  nP : n.fd.ps = n.ps.length
  bnd : n.B
  kbd : ∀ q ∈ n.kb, n.KB1 q
def tabOf (tb : List FN) (frees : List Str) (keep : Nat → Bool) (glos : List (Str × D)) : Tab where
  frees := frees
  fname f := (tb[f]?).map (·.d.at_.1)
  fdef f := (tb[f]?).map (·.fd)
  keep := keep
  glos := glos
  kws f := ((tb[f]?).map (·.kb)).getD []
theorem relE_start {φ : Fz} {μ : List Addr} {H : Hp} {ds : List D} {vs : List V} {N : List Str} (rl : RelL K φ μ H ds vs) : RelE K φ μ H (ds.map some ++ List.replicate (N.length - ds.length) none) (L2.start N vs) := by
  have hl := rl.length
  unfold L2.start
  refine ⟨by simp [hl], fun i d e => ?_⟩
  by_cases hi : i < ds.length
  · rw [List.getElem?_append_left (by simpa using hi), List.getElem?_map] at e
    cases q : ds[i]? with
    | none => rw [q] at e; cases e
    | some d' =>
      rw [q] at e
      cases e
      obtain ⟨v, e1, e2⟩ := rl.get q
      exact ⟨v, by rw [List.getElem?_append_left (by simpa [← hl] using hi), List.getElem?_map, e1]; rfl, e2⟩
  · rw [List.getElem?_append_right (by simpa using hi), List.getElem?_replicate] at e
    split at e <;> cases e
/-- the functions of the table, to any depth -/
theorem tab_ok {xc : XcT} {tb : List FN} {frees : List Str} {keep : Nat → Bool} {glos : List (Str × D)} (ok : ∀ n ∈ tb, n.Ok (tabOf tb frees keep glos))
    (facts : ∀ n ∈ tb, ∃ fa fd, FunD K n.d.name n.d.qual n.d.params n.d.body n.d.scope (n.d.dvs K) (n.d.kws K) fa fd ∧ mg n.d.at_.1 = some (.ref fa)) (fr : ∀ x ∈ frees, mg x = none) (gl : ∀ p ∈ glos, ∃ u v, mg p.1 = some u ∧ RelV v u ∧ ∀ φ μ H, RelD K φ μ H p.2 v) :
    ∀ k f x, (tabOf tb frees keep glos).fname f = some x → ∃ fa fd ps, mg x = some (.ref fa) ∧ PySem.W.keepIn K (.ref fa) = true ∧ Binds K fd ps [] ∧ (∀ q ∈ (tabOf tb frees keep glos).kws f, KB K fd ps q) ∧ FnG P w K mg base k fa fd ps (spF K xc (callN (tabOf tb frees keep glos).fdef keep k) f) := by
  intro k
  induction k with
  | zero =>
    intro f x hx
    cases e : tb[f]? with
    | none => unfold tabOf at hx; simp [e] at hx
    | some n =>
      have hm := List.mem_of_getElem? e
      obtain ⟨fa, fd, D, g⟩ := facts n hm
      have hx' : n.d.at_.1 = x := by unfold tabOf at hx; simpa [e] using hx
      have D' : FunD K n.d.name n.d.qual n.d.params n.d.body n.d.scope [] (n.d.kws K) fa fd := by
        have z := (ok n hm).dfl
        unfold He.DefD.dvs at D
        rw [z] at D
        exact D
      have hkw : FunD K n.d.name n.d.qual n.d.params n.d.body n.d.scope [] (n.d.kws K) fa fd → ∀ q ∈ (tabOf tb frees keep glos).kws f, KB K fd n.ps q := fun D' q hq => by
        have hq' : q ∈ n.kb := by unfold tabOf at hq; simpa [e] using hq
        exact kb_of D' ((ok n hm).kbd q hq')
      refine ⟨fa, fd, n.ps, hx' ▸ g, D.kp, D'.bindsN (ok n hm).bnd, hkw D', ⟨fun vs H Q E => ?_, fun A outer s H args us vs Q E _ _ _ _ _ => ?_⟩⟩
      · rintro ⟨φ, μ, s, ds, rs, rl, h⟩; exact h.elim
      · rintro ⟨φ, μ, s, ds, rs, rl, h⟩; exact h.elim
  | succ k ih =>
    intro f x hx
    cases e : tb[f]? with
    | none => unfold tabOf at hx; simp [e] at hx
    | some n =>
      have hm := List.mem_of_getElem? e
      obtain ⟨fa, fd, D, g⟩ := facts n hm
      have O := ok n hm
      have hx' : n.d.at_.1 = x := by unfold tabOf at hx; simpa [e] using hx
      have D' : FunD K n.d.name n.d.qual n.d.params n.d.body n.d.scope [] (n.d.kws K) fa fd := by
        have z := O.dfl
        unfold He.DefD.dvs at D
        rw [z] at D
        exact D
      have hF : (tabOf tb frees keep glos).fdef f = some n.fd := by unfold tabOf; simp [e]
      have hc : ∀ ds s, callN (tabOf tb frees keep glos).fdef keep (k + 1) f ds s = if ds.length = n.fd.ps then (if keep f = true then runF (callN (tabOf tb frees keep glos).fdef keep k) n.fd ds s else sweep s (runF (callN (tabOf tb frees keep glos).fdef keep k) n.fd ds s)) else .no := fun ds s => by
        rw [callN, hF]
      have hkw : FunD K n.d.name n.d.qual n.d.params n.d.body n.d.scope [] (n.d.kws K) fa fd → ∀ q ∈ (tabOf tb frees keep glos).kws f, KB K fd n.ps q := fun D' q hq => by
        have hq' : q ∈ n.kb := by unfold tabOf at hq; simpa [e] using hq
        exact kb_of D' ((ok n hm).kbd q hq')
      refine ⟨fa, fd, n.ps, hx' ▸ g, D.kp, D'.bindsN O.bnd, hkw D', FnG.of_def D O.sc (fun vs H Q E => ?_) fun cd A out s H vs Q E gd room => ?_⟩
      · rintro ⟨φ, μ, s, ds, rs, rl, h⟩
        rw [hc] at h
        by_cases hl : ds.length = n.fd.ps
        · rw [← rl.length, hl, O.nP]
        · rw [if_neg hl] at h; exact h.elim
      · rintro ⟨φ, μ, s0, ds, rs, rl, h⟩
        rw [hc] at h
        by_cases hl : ds.length = n.fd.ps
        · rw [if_pos hl] at h
          have G : Good (tabOf tb frees keep glos) xc (callN (tabOf tb frees keep glos).fdef keep k) (fun c d _ H' => E c d H') k ⟨n.N, n.d.scope, fun _ => true⟩ (cxOf (L2.CX P w) P w K mg base n.N n.d.qual n.d.scope fa cd A out s H E) :=
            ⟨rfl, O.sc.nd, rfl, rfl, rfl, fr, room, gd, takes_of (X := cxOf (L2.CX P w) P w K mg base n.N n.d.qual n.d.scope fa cd A out s H E) rfl rfl rfl rfl, PassesOwn.leaving, gl, ih⟩
          refine ⟨_, allSs (T := tabOf tb frees keep glos) (xc := xc) n.fd.body _ _ _ G n.d.body O.mt, ?_⟩
          refine ⟨φ, μ, ds.map some ++ List.replicate (n.fd.names - ds.length) none, s0, rs, by rw [O.nN]; exact relE_start rl, ?_⟩
          unfold runF at h
          revert h
          generalize evSs _ n.fd.body _ s0 = r
          intro h
          cases r with
          | no =>
            by_cases hk : keep f = true
            · rw [if_pos hk] at h; exact h.elim
            · rw [if_neg hk] at h; exact h.elim
          | ex c v env' s' =>
            have h' : Fin K xc (fun c d _ H' => E c d H') (RelD K) φ μ H [] (.ex c v s') Q := by
              by_cases hk : keep f = true
              · rw [if_pos hk] at h; exact h
              · rw [if_neg hk] at h; exact h
            exact fun φ' μ' H' σ' cls dx l rs' re' rx => h' φ' μ' H' cls dx l rs' rx
          | ok fl env' s' =>
            cases fl with
            | brk =>
              by_cases hk : keep f = true
              · rw [if_pos hk] at h; exact h.elim
              · rw [if_neg hk] at h; exact h.elim
            | cnt =>
              by_cases hk : keep f = true
              · rw [if_pos hk] at h; exact h.elim
              · rw [if_neg hk] at h; exact h.elim
            | nxt =>
              intro φ' μ' H' σ' l rs' re'
              by_cases hk : keep f = true
              · rw [if_pos hk] at h
                exact h φ' μ' H' _ l rs' mk_non
              · rw [if_neg hk] at h
                exact sweep_fin rs h l rs' mk_non
            | ret d =>
              intro φ' μ' H' σ' l rs' re' v rd
              by_cases hk : keep f = true
              · rw [if_pos hk] at h
                exact h φ' μ' H' v l rs' rd
              · rw [if_neg hk] at h
                exact sweep_fin rs h l rs' rd
        · rw [if_neg hl] at h; exact h.elim
end
end Mi

/-! # A law's end -/
namespace Mi
open PySem PySem.Spec PyProof.Rows L2
/-- the script as a tree -/
def scr (ns : List Int) : List D := [.flst (ns.map .int)]
theorem scr_rel {K : PySem.W.Frag} {φ : Fz} {μ : List Addr} {H : Hp} : ∀ (ns : List Int), RelL K φ μ H (ns.map .int) (ns.map V.int)
  | [] => .nil
  | n :: ns => .cons mk_int (scr_rel ns)
/-- the law's call, where its function keeps what FnG says: H is what is tracked at its entry -/
theorem call_end {P : Program} {w : World} {K : PySem.W.Frag} {mg mb : Str → Option Value} {k : Nat} {fa a : Addr} {fd : PySem.FuncData} {ps : List Str} {sp : Sp} {s1 : Shared} {us : List Value} {H : Hp}
    (inK : K.In s1.heap) (glo : s1.heap.Ns mainGlobals mg) (blt : s1.heap.Ns builtinsNs mb) (boot : ∀ x : Str, x ≠ "__name__" → mb x = bootBuiltins x) (nolim : s1.heap.NoLimit) (idle : s1.gens = #[])
    (obj : s1.heap.get? a = some { cls := .type "list", data := .seq us.toArray }) (room : Room k callerA) (F : FnG P w K mg (hidT s1.heap H) k fa fd ps sp) (bnd : L2.Binds K fd ps [])
    (only : Only H) (here : ∀ b, H b ≠ none → b = a ∧ K.lookup a = none) (held : HOk P w H s1.heap) (q : sp [.ref a] H (fun v _ => v = .bl true) fun _ _ _ => False) :
    codeAny (model P w) callerA (.call (.ref fa) ⟨[.ref a], []⟩) (fun r s2 => r = .ok (.ret (.bool true)) ∧ OldK s1.heap s2.heap ∧ s2.os = s1.os ∧ AllBare s2.gens) s1 := by
  -- what is not tracked is ground
  have ground : ∀ {b : Addr} {o : Obj}, s1.heap.get? b = some o → H b = none → (hidT s1.heap H).get? b = some o := fun z n => hidT_get z n
  have dicts : ∀ {b : Addr} {m : Str → Option Value}, s1.heap.Ns b m → (hidT s1.heap H).Ns b m := by
    rintro b m ⟨o, es, ep, z, zd, zr⟩
    refine ⟨o, es, ep, ground z ?_, zd, zr⟩
    by_cases c : H b = none
    · exact c
    · obtain ⟨rfl, _⟩ := here b c
      rw [obj] at z
      cases z
      exact nomatch (show (Data.seq us.toArray _ : Data) = .dict es ep from zd)
  have kin : K.In (hidT s1.heap H) := fun b o z => ground (inK b o z) (by
    by_cases c : H b = none
    · exact c
    · obtain ⟨rfl, n⟩ := here b c
      rw [n] at z
      cases z)
  have mod : Mod K mg (hidT s1.heap H) := by
    obtain ⟨mc, y1, y2⟩ := nolim
    exact ⟨kin, dicts glo, ⟨mb, dicts blt, boot⟩, ⟨mc, dicts y1, y2⟩⟩
  have ent : Env0 P w K mg (hidT s1.heap H) callerA [] s1 H :=
    { frames := rfl, mod := mod, bs := fun b o z => of_hidT z, bsz := Nat.le_of_eq (hidT_size _ _), funs := trivial, frf := (fun b hb => nomatch hb), hok := held, bare := .of_eq idle }
  have go := F.run callerA [] s1 H ⟨[.ref a], []⟩ [.ref a] [.ref a] _ _ rfl room ent (bnd s1 [.ref a] inK (F.len _ _ _ _ q)) (.cons rfl .nil) q
  refine codeAny_mono go fun r s2 z => ?_
  match r, z with
  | .error e, z =>
    obtain ⟨_, _, _, _, _, _, _, _, _, _, _, _, no⟩ := z
    exact no.elim
  | .ok .next, z => exact z.elim
  | .ok .brk, z => exact z.elim
  | .ok .cont, z => exact z.elim
  | .ok (.ret u), z =>
    obtain ⟨v, G, z1, z2, z3, z4, z5, z6⟩ := z
    cases (show v = .bl true from z6)
    cases (show u = Value.bool true from z5)
    refine ⟨rfl, OldK.of_keep fun b o y => ?_, z1, z2⟩
    rcases only b with c | ⟨ob, xs, c⟩
    · exact z3.keep b o y c (fun y => nomatch y) (fun y => nomatch y)
    · obtain ⟨y1, _⟩ := held b _ c
      obtain ⟨y2, _⟩ := z4 b _ (z3.frzs b ob _ c)
      rw [y] at y1
      cases y1
      exact y2
/-- a law by the small language: at every script the evaluator's function answers True -/
theorem law_end {l : PySem.W.OpenLaw} {n k f : Nat} {q : Program} {loose : List Str} {XP : (Str → Option Value) → Heap → Prop} {YP : World → Heap → Prop} {d : DefRec} {tb : List FN} {frees : List Str} {keep : Nat → Bool} {glos : List (Str × D)} {nf : FN} {xc : World → XcT}
    (hn : l.most = some n) (hn2 : n ≤ sizeLine) (hdf : d.params.defaults = []) (hr : Room k callerA) (hf : tb[f]? = some nf) (hname : nf.d.at_.1 = d.name) (ok : ∀ n ∈ tb, n.Ok (tabOf tb frees keep glos))
    (Y : ∀ (w : World) (h : Heap), YP w h → ∃ K : PySem.W.Frag, K.In h ∧ (∀ n ∈ tb, ∃ fa fd, FunD K n.d.name n.d.qual n.d.params n.d.body n.d.scope (n.d.dvs K) (n.d.kws K) fa fd ∧ ∀ mg : Str → Option Value, h.Ns mainGlobals mg → mg n.d.at_.1 = some (.ref fa)) ∧
      (∀ mg : Str → Option Value, h.Ns mainGlobals mg → ∀ x ∈ frees, mg x = none) ∧ ∀ p ∈ glos, gloB K p = true)
    (law : ∀ ns : List Int, ns.length ≤ n → (∀ z ∈ ns, Builtin.Int.intBits z ≤ 1048576) → ∃ s, callN (tabOf tb frees keep glos).fdef keep k f (scr ns) [] = .ok (.bl true) s) :
    PySem.W.WalkO q loose XP YP l.row.toRowW d [] (fun f vs => PySem.call f vs) := by
  refine Att.attach_callB hn hdf fun w s0 s1 mg mb fa o pm cd doc a us ns G y ho hd hcd hmg obj reads few bits idle => ?_
  obtain ⟨K, inK, funs, frs, gls⟩ := Y w _ y
  have hm := List.mem_of_getElem? hf
  obtain ⟨fa', fd, D, at_⟩ := funs nf hm
  have e1 : mg d.name = some (.ref fa') := hname ▸ at_ mg G.T.g
  rw [hmg] at e1
  cases e1
  have tk := fun (base : Heap) => tab_ok (P := l.prog) (w := w) (K := K) (mg := mg) (base := base) (xc := xc w) ok (fun n hn => let ⟨fa, fd, D, g⟩ := funs n hn; ⟨fa, fd, D, g mg G.T.g⟩) (frs mg G.T.g) (fun p hp => gloB_ok inK G.T.g (gls p hp)) k f nf.d.at_.1 (by unfold tabOf; simp [hf])
  have rv := vals_ints reads
  have lenV := reads.length
  have lay := law ns few bits
  obtain ⟨s', hs'⟩ := lay
  have sp : ∀ (φ : Fz) (H : Hp), RelS K φ [] H [] → FzL K φ H a (ns.map V.int) → spF K (xc w) (callN (tabOf tb frees keep glos).fdef keep k) f [.ref a] H (fun v _ => v = .bl true) fun _ _ _ => False := fun φ H rs hz => by
    refine ⟨φ, [], [], scr ns, rs, .cons (mk_flst hz (scr_rel ns)) .nil, ?_⟩
    rw [hs']
    exact fun φ' μ' H' b _ _ rb => relD_bl rb
  cases look : K.lookup a with
  | some o' =>
    have z := inK a o' look
    rw [obj] at z
    cases z
    obtain ⟨fa2, fd2, ps2, g1, g2, g3, _, g4⟩ := tk (hidT s1.heap fun _ => none)
    rw [at_ mg G.T.g] at g1
    cases g1
    refine call_end (H := fun _ => none) inK G.T.g G.T.b G.T.builtins G.T.nolimit idle obj hr g4 g3 (fun _ => .inl rfl) (fun b z => absurd rfl z) (fun b u z => nomatch z) (sp [] _ ⟨List.nodup_nil, rfl, fun n c a e => by simp at e, (fun p z => nomatch z), (fun p z => nomatch z), (fun p z => nomatch z)⟩ ?_)
    exact .inr (.inr (.inr ⟨_, us.toArray, _, look, rfl, rfl, rfl, by rw [List.size_toArray, lenV]; exact Nat.le_trans few hn2, by simpa using rv⟩))
  | none =>
    obtain ⟨fa2, fd2, ps2, g1, g2, g3, _, g4⟩ := tk (hidT s1.heap fun b => if b = a then some (.frz { cls := .type "list", data := .seq us.toArray } (.lst (ns.map V.int))) else none)
    rw [at_ mg G.T.g] at g1
    cases g1
    refine call_end (H := fun b => if b = a then some (.frz { cls := .type "list", data := .seq us.toArray } (.lst (ns.map V.int))) else none) inK G.T.g G.T.b G.T.builtins G.T.nolimit idle obj hr g4 g3 (fun b => ?_) (fun b z => ?_) (fun b u z => ?_)
      (sp [] _ ⟨List.nodup_nil, rfl, fun n c a e => by simp at e, (fun p z => nomatch z), (fun p z => nomatch z), (fun p z => nomatch z)⟩ (.inr (.inl ⟨_, if_pos rfl⟩)))
    · by_cases c : b = a
      · exact .inr ⟨_, _, if_pos c⟩
      · exact .inl (if_neg c)
    · by_cases c : b = a
      · exact ⟨c, look⟩
      · exact absurd (if_neg c) z
    · by_cases c : b = a
      · subst c
        cases (if_pos rfl).symm.trans z
        exact ⟨obj, by rw [List.length_map]; exact Nat.le_trans few hn2, us, _, rv, obj⟩
      · cases (if_neg c).symm.trans z
end Mi

/-! # The evaluator, step by step -/
namespace Mi
/-! ### sizes -/
/-- below 2 ^ k in size -/
def Lg (k : Nat) (i : Int) : Prop := i.natAbs < 2 ^ k
theorem Lg.up {k m : Nat} {i : Int} (h : Lg k i) (hk : k ≤ m) : Lg m i := Nat.lt_of_lt_of_le h (Nat.pow_le_pow_right (by decide) hk)
theorem Lg.log {k : Nat} {i : Int} (h : Lg k i) (hk : 0 < k) : i.natAbs.log2 < k := by
  by_cases z : i.natAbs = 0
  · rw [z]; simpa using hk
  · exact (Nat.log2_lt z).mpr h
theorem Lg.mul {k m : Nat} {i j : Int} (h : Lg k i) (g : Lg m j) : Lg (k + m) (i * j) := by
  unfold Lg at *
  rw [Int.natAbs_mul, Nat.pow_add]
  exact Nat.mul_lt_mul'' h g
theorem Lg.add {k : Nat} {i j : Int} (h : Lg k i) (g : Lg k j) : Lg (k + 1) (i + j) := by
  unfold Lg at *
  have := Int.natAbs_add_le i j
  rw [Nat.pow_succ]
  omega
theorem Lg.sub {k : Nat} {i j : Int} (h : Lg k i) (g : Lg k j) : Lg (k + 1) (i - j) := by
  unfold Lg at *
  have := Int.natAbs_sub_le i j
  rw [Nat.pow_succ]
  omega
theorem big_of {k m : Nat} {i j : Int} (h : Lg k i) (g : Lg m j) (hk : 0 < k) (hm : 0 < m) (s : k + m ≤ 1000000) : bigOk i j = true := by
  have a := h.log hk
  have b := g.log hm
  unfold bigOk
  exact decide_eq_true (by omega)
theorem lg_lit {k : Nat} {i : Int} (h : decide (i.natAbs < 2 ^ k) = true) : Lg k i := by
  unfold Lg
  exact of_decide_eq_true h
theorem lg62 {i : Int} (h : -4611686018427387904 < i ∧ i < 4611686018427387904) : Lg 62 i := by
  unfold Lg
  have : (2 : Nat) ^ 62 = 4611686018427387904 := by decide
  omega
theorem big62 {i j : Int} (h : -4611686018427387904 < i ∧ i < 4611686018427387904) (g : -4611686018427387904 < j ∧ j < 4611686018427387904) : bigOk i j = true := big_of (lg62 h) (lg62 g) (by decide) (by decide) (by decide)
theorem fdv_of {j : Int} (h : 0 < j) (g : j < 4611686018427387904) : 0 < j ∧ j.natAbs.log2 < 9000 := ⟨h, by
  have := (lg62 (i := j) (by omega)).log (by decide)
  omega⟩
theorem bits_of {k : Nat} {i : Int} (h : Lg k i) : PySem.Builtin.Int.intBits i ≤ k := by
  unfold PySem.Builtin.Int.intBits
  unfold Lg at h
  split
  · omega
  · rename_i z
    have z' : i.natAbs ≠ 0 := by simpa using z
    have := (Nat.log2_lt z').mpr h
    omega
/-! ### values -/
@[simp] theorem lay_val (d : D) (s : Sto) : lay (.val d) s = .ok d s := rfl
@[simp] theorem lay_new (xs : List D) (s : Sto) : lay (.new xs) s = .ok (.loc s.length) (s ++ [.lst xs]) := rfl
@[simp] theorem bindv_new {β : Type} (xs : List D) (s : Sto) (f : D → Sto → R β) : (R.ok (P.new xs) s).bindv f = f (.loc s.length) (s ++ [.lst xs]) := rfl
@[simp] theorem bin_add (i j : Int) : binop .add (.int i) (.int j) = some (.int (i + j)) := rfl
@[simp] theorem bin_sub (i j : Int) : binop .sub (.int i) (.int j) = some (.int (i - j)) := rfl
theorem bin_mul {i j : Int} (h : bigOk i j = true) : binop .mul (.int i) (.int j) = some (.int (i * j)) := by simp [binop, binI, h]
theorem bin_mod {i j : Int} (h : 0 < j) : binop .mod (.int i) (.int j) = some (.int (i % j)) := by simp [binop, binI, h]
theorem bin_fdv {i j : Int} (h : 0 < j ∧ j.natAbs.log2 < 9000) : binop .fdv (.int i) (.int j) = some (.int (i / j)) := by simp [binop, binI, h]
theorem bin_pow {i j : Int} (h : 0 ≤ j ∧ (PySem.Builtin.Int.intBits i : Int) * j ≤ 2 ^ 27) : binop .pow (.int i) (.int j) = some (.int (i ^ j.toNat)) := by
  unfold binop binI
  simp only [h, and_self, if_true]
  rfl
@[simp] theorem cm_lt (i j : Int) : cmpop .lt (.int i) (.int j) = some (decide (i < j)) := rfl
@[simp] theorem cm_le (i j : Int) : cmpop .le (.int i) (.int j) = some (decide (i ≤ j)) := rfl
@[simp] theorem cm_gt (i j : Int) : cmpop .gt (.int i) (.int j) = some (decide (j < i)) := rfl
@[simp] theorem cm_ge (i j : Int) : cmpop .ge (.int i) (.int j) = some (decide (j ≤ i)) := rfl
@[simp] theorem cm_eq (i j : Int) : cmpop .eq (.int i) (.int j) = some (decide (i = j)) := rfl
@[simp] theorem cm_ne (i j : Int) : cmpop .ne (.int i) (.int j) = some (!decide (i = j)) := rfl
@[simp] theorem cm_eqs (i j : PySem.Str) : cmpop .eq (.str i) (.str j) = some (decide (i = j)) := rfl
@[simp] theorem cm_nes (i j : PySem.Str) : cmpop .ne (.str i) (.str j) = some (!decide (i = j)) := rfl
@[simp] theorem tr_bl (b : Bool) (s : Sto) : truth (.bl b) s = some b := rfl
@[simp] theorem tr_int (i : Int) (s : Sto) : truth (.int i) s = some (i != 0) := rfl
@[simp] theorem tr_non (s : Sto) : truth .non s = some false := rfl
@[simp] theorem tr_tup (xs : List D) (s : Sto) : truth (.tup xs) s = some (!xs.isEmpty) := rfl
@[simp] theorem tr_flst (xs : List D) (s : Sto) : truth (.flst xs) s = some (!xs.isEmpty) := rfl
@[simp] theorem sq_tup (xs : List D) (s : Sto) : sq (.tup xs) s = some (true, xs) := rfl
@[simp] theorem sq_flst (xs : List D) (s : Sto) : sq (.flst xs) s = some (false, xs) := rfl
theorem sq_loc {n : Nat} {s : Sto} {xs : List D} (h : s[n]? = some (.lst xs)) : sq (.loc n) s = some (false, xs) := by simp [sq, h]
@[simp] theorem b1_int (i : Int) (s : Sto) : b1 .int (.int i) s = some (.int i) := rfl
@[simp] theorem b1_bl (b : Bool) (s : Sto) : b1 .int (.bl b) s = some (.int (if b then 1 else 0)) := rfl
@[simp] theorem b1_abs (i : Int) (s : Sto) : b1 .abs (.int i) s = some (.int (if i < 0 then -i else i)) := rfl
@[simp] theorem b1_len (d : D) (s : Sto) : b1 .len d s = (sq d s).map fun q => .int q.2.length := by cases d <;> rfl
@[simp] theorem b1_isi (t : Ty) (d : D) (s : Sto) : b1 (.isi t) d s = some (.bl (isTy t d)) := by cases d <;> rfl
@[simp] theorem b2_min (i j : Int) : b2 .min (.int i) (.int j) = some (.int (if j < i then j else i)) := rfl
@[simp] theorem b2_max (i j : Int) : b2 .max (.int i) (.int j) = some (.int (if i < j then j else i)) := rfl
theorem item_at {xs : List D} {i : Int} (h : 0 ≤ i) (g : i < xs.length) : item xs i = xs[i.toNat]? := by
  unfold item L2.atI L2.ixN
  rw [if_pos h, if_pos g]
  rfl
@[simp] theorem item0 (a : D) (r : List D) : item (a :: r) 0 = some a := by
  rw [item_at (by decide) (by simp)]
  rfl
@[simp] theorem item1 (a b : D) (r : List D) : item (a :: b :: r) 1 = some b := by
  rw [item_at (by decide) (by simp; omega)]
  rfl
@[simp] theorem item2 (a b c : D) (r : List D) : item (a :: b :: c :: r) 2 = some c := by
  rw [item_at (by decide) (by simp; omega)]
  rfl
@[simp] theorem bt_nm (i : Nat) (d : D) (env : Env) : bindTg (.nm i) d env = some (env.set i (some d)) := rfl
@[simp] theorem bt_tp (is : List Nat) (ds : List D) (env : Env) : bindTg (.tp is) (.tup ds) env = setAll env is ds := rfl
@[simp] theorem sa_nil (env : Env) : setAll env [] [] = some env := rfl
@[simp] theorem sa_cons (env : Env) (i : Nat) (is : List Nat) (d : D) (ds : List D) : setAll env (i :: is) (d :: ds) = setAll (env.set i (some d)) is ds := rfl
/-! ### texts of ints -/
theorem str_len (x : String) : (PySem.Str.ofString x).length = x.length := by
  rw [PySem.Str.ofString_eq_toList]
  simp [PySem.Str.length, String.length_toList]
theorem int_text_len {k : Nat} {i : Int} (h : Lg k i) (hk : k ≤ 1900) : (PySem.PyData.shown (.int i)).length ≤ 601 := by
  have h1 : i.natAbs < 10 ^ 600 := Nat.lt_of_lt_of_le (h.up hk) (by decide +kernel)
  have h2 := (Nat.length_repr_le_iff (n := i.natAbs) (by decide : 0 < 600)).mpr h1
  unfold PySem.PyData.shown
  rw [str_len]
  cases i with
  | ofNat n =>
    show (Nat.repr n).length ≤ 601
    exact Nat.le_trans h2 (by decide)
  | negSucc n =>
    show ("-" ++ Nat.repr (n + 1)).length ≤ 601
    rw [String.length_append]
    have : (Nat.repr (n + 1)).length ≤ 600 := h2
    have e : "-".length = 1 := by decide
    omega
theorem repr_int {k : Nat} {i : Int} (h : Lg k i) (hk : k ≤ 1900) (h0 : 0 < k) (s : Sto) : b1 .repr (.int i) s = some (.str (PySem.PyData.shown (.int i))) := by
  have a : (PySem.PyData.int i).showable = true := by
    unfold PySem.PyData.showable
    exact decide_eq_true (by have := h.log h0; omega)
  have b := int_text_len h hk
  unfold b1
  simp only [toPy]
  rw [if_pos]
  simp only [a, Bool.true_and]
  exact decide_eq_true (Nat.le_trans b (by decide))
/-! ### turns of a while loop -/
theorem whl_go {c : Env → Sto → R Bool} {b : Env → Sto → RS} {env env' : Env} {s s1 s' : Sto} (h : c env s = .ok true s1) (g : b env s1 = .ok .nxt env' s') : whl c b env s = whl c b env' s' := by
  rw [whl_eq, h]
  simp only [g]
theorem whl_end {c : Env → Sto → R Bool} {b : Env → Sto → RS} {env : Env} {s s1 : Sto} (h : c env s = .ok false s1) : whl c b env s = .ok .nxt env s1 := by
  rw [whl_eq, h]
theorem whl_brk {c : Env → Sto → R Bool} {b : Env → Sto → RS} {env env' : Env} {s s1 s' : Sto} (h : c env s = .ok true s1) (g : b env s1 = .ok .brk env' s') : whl c b env s = .ok .nxt env' s' := by
  rw [whl_eq, h]
  simp only [g]
/-! ### ranges -/
def irange (n : Nat) : List D := (List.range n).map fun (k : Nat) => D.int (k : Int)
@[simp] theorem irange_len (n : Nat) : (irange n).length = n := by simp [irange]
theorem rg1 {n : Int} (h : 0 ≤ n ∧ n < 4611686018427387904) : rangeOf [.int n] = some (irange n.toNat) := by
  unfold rangeOf
  simp only
  rw [if_pos (by omega)]
  rfl
theorem ei_rng1 {o : Orc} {e : E} {env : Env} {s s' : Sto} {n : Int} (he : ev o e env s = .ok (.val (.int n)) s') (h : 0 ≤ n ∧ n < 4611686018427387904) : evi o (.rng (.cons e .nil)) env s = .ok (.fix (irange n.toNat)) s' := by
  simp [evi, ev, evs, he, rg1 h, srcP]
/-! ### the store -/
theorem set_at {s : Sto} {n : Nat} {c d : Cell} (h : s[n]? = some d) : (s.set n c)[n]? = some c := by
  have hn := (List.getElem?_eq_some_iff.mp h).1
  simp [hn]
theorem app_at {s t : Sto} {n : Nat} {d : Cell} (h : s[n]? = some d) : (s ++ t)[n]? = some d := by
  have hn := (List.getElem?_eq_some_iff.mp h).1
  rw [List.getElem?_append_left hn]
  exact h
theorem app_end {s : Sto} {c : Cell} : (s ++ [c])[s.length]? = some c := by simp
/-! ### calls -/
theorem sweep_ok {s s' : Sto} {d : D} (h1 : (freeze s.length d s').und s.length = true) (h2 : s.length ≤ s'.length) (h3 : KeepsOld s s') : sweep s (.ok d s') = .ok (freeze s.length d s') (s'.take s.length) := by
  unfold sweep
  simp only
  rw [if_pos ⟨h1, h2, h3⟩]
theorem keeps_app {s t : Sto} : KeepsOld s (s ++ t) := fun i hi => .inl (List.getElem?_append_left hi)
theorem keeps_same {s : Sto} : KeepsOld s s := fun i hi => .inl rfl
theorem keeps_set {s : Sto} {n : Nat} {c : Cell} (h : c.und s.length = true) : KeepsOld s (s.set n c) := fun i hi => by
  by_cases e : n = i
  · subst e
    exact .inr ⟨c, by simp [hi], h⟩
  · exact .inl (by rw [List.getElem?_set_ne e])
theorem KeepsOld.app {s s' t : Sto} (h : KeepsOld s s') (hl : s.length ≤ s'.length) : KeepsOld s (s' ++ t) := fun i hi => by
  rw [List.getElem?_append_left (by omega)]
  exact h i hi
/-- nothing new is held: the call leaves the store of its entry -/
theorem und_loc {n k : Nat} (h : D.und n (.loc k) = true) : k < n := by
  unfold D.und at h
  exact of_decide_eq_true h
theorem sweep_val {s t : Sto} {d : D} (hu : d.und s.length = true) : sweep s (.ok d (s ++ t)) = .ok d s := by
  have hf : freeze s.length d (s ++ t) = d := by
    cases d <;> first | rfl | skip
    rename_i n
    unfold freeze
    simp only
    rw [if_pos (und_loc hu)]
  rw [sweep_ok (by rw [hf]; exact hu) (by simp) keeps_app, hf]
  simp
theorem sweep_same {s : Sto} {d : D} (hu : d.und s.length = true) : sweep s (.ok d s) = .ok d s := by
  have := sweep_val (t := []) hu
  rwa [List.append_nil] at this
theorem sweep_new {s t : Sto} {n : Nat} {xs : List D} (h : (s ++ t)[n]? = some (.lst xs)) (hn : s.length ≤ n) (hu : D.undL s.length xs = true) : sweep s (.ok (.loc n) (s ++ t)) = .ok (.flst xs) s := by
  have hf : freeze s.length (.loc n) (s ++ t) = .flst xs := by
    unfold freeze
    simp only
    rw [if_neg (by omega), h]
  rw [sweep_ok (by rw [hf]; unfold D.und; exact hu) (by simp) keeps_app, hf]
  simp
theorem sweep_set {s t : Sto} {n : Nat} {c : Cell} {d : D} (hc : c.und s.length = true) (hu : d.und s.length = true) : sweep s (.ok d (s.set n c ++ t)) = .ok d (s.set n c) := by
  have hf : freeze s.length d (s.set n c ++ t) = d := by
    cases d <;> first | rfl | skip
    rename_i n
    unfold freeze
    simp only
    rw [if_pos (und_loc hu)]
  rw [sweep_ok (by rw [hf]; exact hu) (by simp) ((keeps_set hc).app (by simp)), hf]
  congr 1
  rw [List.take_append_of_le_length (by simp)]
  rw [List.take_of_length_le (by simp)]
end Mi

/-! # The draws of the laws -/
namespace Mi
open PySem
/-- the body of _law_pot -/
def potB (c1 c2 m1 c3 c4 : Int) : Ss :=
    (.cons (.asg (.nm 2) (.ite (.cmp .lt (.var 1) (.b1 .len (.var 0))) (.idx (.var 0) (.var 1)) (.bin .add (.bin .add (.bin .mod (.bq .sum (.slc (.var 0) (.con .non) (.con (.int 1)))) (.con (.int 1000003))) (.bin .mul (.con (.int c1)) (.var 1))) (.con (.int c2)))))
    (.cons (.asg (.nm 3) (.bin .mul (.bin .mod (.b1 .int (.b1 .abs (.var 2))) (.bin .pow (.bin .pow (.con (.int 10)) (.con (.int 60))) (.con (.int 5)))) (.b1 .int (.cmp .ge (.b1 .abs (.var 2)) (.bin .pow (.con (.int 10)) (.con (.int 18)))))))
    (.cons (.asg (.nm 4) (.bin .mod (.b1 .int (.var 2)) (.con (.int 2305843009213693951))))
    (.cons (.ret (.lst (.cons (.var 3) (.cons (.bin .mod (.b1 .int (.bin .add (.bin .add (.bin .mul (.var 4) (.con (.int m1))) (.bin .mul (.bin .mul (.con (.int c3)) (.var 1)) (.var 1))) (.con (.int c4)))) (.con (.int 2305843009213693921))) (.cons (.con (.int 0)) .nil)))))
    .nil))))
/-- of _law_of; f: _law_take's place -/
def ofB (f : Nat) : Ss := (.cons (.ret (.idx (.var 1) (.fn f (.cons (.var 0) (.cons (.b1 .len (.var 1)) .nil))))) .nil)
/-- of _law_cells -/
def cellsB : Ss := (.cons (.ret (.lrg (.cons (.b2 .max (.con (.int 1)) (.b2 .min (.var 1) (.b1 .len (.var 0)))) .nil))) .nil)
/-- of law: all its cells -/
def cellE (fr fp : Nat) : E := .fn fr (.cons (.fn fp (.cons (.var 0) (.cons (.var 1) .nil))) .nil)
def lawB (fr fp fc : Nat) (most : Int) : Ss := (.cons (.ret (.bq .all (.lc (cellE fr fp) (.nm 1) (.fn fc (.cons (.var 0) (.cons (.con (.int most)) .nil))) [1]))) .nil)
/-- the body of _law_take -/
def takeB (p1 p2 p3 : Int) : Ss :=
    (.cons (.iff (.cmp .gt (.idx (.var 0) (.con (.int 0))) (.con (.int 0))) (.cons (.asg (.nm 2) (.bin .mod (.b1 .int (.idx (.var 0) (.con (.int 0)))) (.var 1)))
    (.cons (.sto (.var 0) (.con (.int 0)) (.bin .fdv (.idx (.var 0) (.con (.int 0))) (.var 1)))
    (.cons (.ret (.var 2))
    .nil))) .nil)
    (.cons (.sto (.var 0) (.con (.int 2)) (.bin .add (.idx (.var 0) (.con (.int 2))) (.con (.int 1))))
    (.cons (.asg (.nm 3) (.idx (.lst (.cons (.con (.int 2147483647)) (.cons (.con (.int 2147483629)) (.cons (.con (.int 2147483587)) (.cons (.con (.int 2147483579)) (.cons (.con (.int 2147483563)) .nil)))))) (.bin .mod (.b1 .int (.idx (.var 0) (.con (.int 2)))) (.con (.int 5)))))
    (.cons (.asg (.nm 4) (.bin .mod (.b1 .int (.bin .pow (.b1 .int (.bin .add (.bin .add (.idx (.var 0) (.con (.int 1))) (.bin .mul (.bin .mul (.con (.int p1)) (.idx (.var 0) (.con (.int 2)))) (.idx (.var 0) (.con (.int 2))))) (.con (.int p2)))) (.con (.int 3)))) (.var 3)))
    (.cons (.asg (.nm 4) (.bin .mod (.b1 .int (.bin .mul (.var 4) (.bin .add (.bin .mod (.b1 .int (.var 4)) (.con (.int p3))) (.bin .mul (.con (.int 89)) (.idx (.var 0) (.con (.int 2))))))) (.con (.int 2305843009213693907))))
    (.cons (.ret (.bin .mod (.b1 .int (.bin .fdv (.var 4) (.con (.int 173)))) (.var 1)))
    .nil))))))
theorem take_own {o : Orc} {p1 p2 p3 : Int} {n : Nat} {a b c u : Int} {s : Sto} (hs : s[n]? = some (.lst [.int a, .int b, .int c])) (ha : 0 < a) (hu : 0 < u) (hu2 : u < 4611686018427387904) :
    runF o ⟨2, 5, takeB p1 p2 p3⟩ [.loc n, .int u] s = .ok (.int (a % u)) (s.set n (.lst [.int (a / u), .int b, .int c])) := by
  have m := bin_mod (i := a) hu
  have f := bin_fdv (i := a) (fdv_of hu hu2)
  simp [runF, takeB, evSs, evS, ev, evv, tst, hs, sq_loc hs, ha, m, f]
theorem prime_at {i : Int} (h : 0 ≤ i) (g : i < 5) : ∃ p : Int, item [.int 2147483647, .int 2147483629, .int 2147483587, .int 2147483579, .int 2147483563] i = some (.int p) ∧ 0 < p ∧ p < 2147483648 := by
  have : i = 0 ∨ i = 1 ∨ i = 2 ∨ i = 3 ∨ i = 4 := by omega
  rcases this with rfl | rfl | rfl | rfl | rfl
  · exact ⟨2147483647, rfl, by decide, by decide⟩
  · exact ⟨2147483629, rfl, by decide, by decide⟩
  · exact ⟨2147483587, rfl, by decide, by decide⟩
  · exact ⟨2147483579, rfl, by decide, by decide⟩
  · exact ⟨2147483563, rfl, by decide, by decide⟩
theorem take_drawn {o : Orc} {p1 p2 p3 : Int} {n : Nat} {a b c u : Int} {s : Sto} (hs : s[n]? = some (.lst [.int a, .int b, .int c])) (ha : a ≤ 0) (hu : 0 < u) (hu2 : u < 4611686018427387904) (hb : 0 ≤ b ∧ b < 4611686018427387904) (hc : 0 ≤ c ∧ c < 1099511627776) (h1 : 0 < p1 ∧ p1 < 1048576) (h2 : 0 < p2 ∧ p2 < 1048576) (h3 : 0 < p3 ∧ p3 < 1048576) :
    ∃ r t, runF o ⟨2, 5, takeB p1 p2 p3⟩ [.loc n, .int u] s = .ok (.int (r % u)) (s.set n (.lst [.int a, .int b, .int (c + 1)]) ++ t) := by
  have ha' : ¬ 0 < a := by omega
  have hs2 := set_at (c := .lst [.int a, .int b, .int (c + 1)]) hs
  have hs3 := app_at (t := [.lst [.int 2147483647, .int 2147483629, .int 2147483587, .int 2147483579, .int 2147483563]]) hs2
  have m5 := bin_mod (i := c + 1) (j := 5) (by decide)
  obtain ⟨p, hp, hp0, hp1⟩ := prime_at (i := (c + 1) % 5) (by omega) (by omega)
  have hq : sq (.loc s.length) (s.set n (.lst [.int a, .int b, .int (c + 1)]) ++ [.lst [.int 2147483647, .int 2147483629, .int 2147483587, .int 2147483579, .int 2147483563]]) = some (false, [.int 2147483647, .int 2147483629, .int 2147483587, .int 2147483579, .int 2147483563]) := by
    refine sq_loc ?_
    rw [List.getElem?_append_right (by simp)]
    simp
  have l1 : Lg 62 p1 := lg62 (by omega)
  have lc : Lg 62 (c + 1) := lg62 (by omega)
  have lb : Lg 62 b := lg62 (by omega)
  have lp2 : Lg 62 p2 := lg62 (by omega)
  have k1 := bin_mul (big_of l1 lc (by decide) (by decide) (by decide))
  have l2 := l1.mul lc
  have k2 := bin_mul (big_of l2 lc (by decide) (by decide) (by decide))
  have l3 := l2.mul lc
  have l4 := (lb.up (m := 186) (by decide)).add l3
  have l5 := l4.add (lp2.up (m := 187) (by decide))
  have k3 := bin_pow (i := b + p1 * (c + 1) * (c + 1) + p2) (j := 3) ⟨by decide, by have := bits_of l5; omega⟩
  have k4 := bin_mod (i := (b + p1 * (c + 1) * (c + 1) + p2) ^ (3 : Int).toNat) hp0
  generalize hx : (b + p1 * (c + 1) * (c + 1) + p2) ^ (3 : Int).toNat = x at *
  have hx0 := Int.emod_nonneg x (b := p) (by omega)
  have hx1 := Int.emod_lt_of_pos x hp0
  generalize hy : x % p = y at *
  have k5 := bin_mod (i := y) h3.1
  have k6 := bin_mul (big62 (i := 89) (j := c + 1) (by decide) (by omega))
  have hz0 := Int.emod_nonneg y (b := p3) (by omega)
  have hz1 := Int.emod_lt_of_pos y h3.1
  have k7 := bin_mul (i := y) (j := y % p3 + 89 * (c + 1)) (big62 (by omega) (by omega))
  have k8 := bin_mod (i := y * (y % p3 + 89 * (c + 1))) (j := 2305843009213693907) (by decide)
  have k9 := bin_fdv (i := y * (y % p3 + 89 * (c + 1)) % 2305843009213693907) (j := 173) ⟨by decide, by decide +kernel⟩
  have k10 := bin_mod (i := y * (y % p3 + 89 * (c + 1)) % 2305843009213693907 / 173) hu
  refine ⟨y * (y % p3 + 89 * (c + 1)) % 2305843009213693907 / 173, [.lst [.int 2147483647, .int 2147483629, .int 2147483587, .int 2147483579, .int 2147483563]], ?_⟩
  simp [runF, takeB, evSs, evS, ev, evs, evv, tst, hs, sq_loc hs, ha', sq_loc hs2, sq_loc hs3, m5, sizeMax, hq, hp, k1, k2, k3, k4, k5, k6, k7, k8, k9, k10]
/-- a pot in the store: its draws so far are m at most -/
def Pot (s : Sto) (n : Nat) (m : Int) : Prop := ∃ a b c : Int, s[n]? = some (.lst [.int a, .int b, .int c]) ∧ 0 ≤ b ∧ b < 4611686018427387904 ∧ 0 ≤ c ∧ c ≤ m
/-- a call through the table -/
theorem call_eq {F : Nat → Option FDef} {keep : Nat → Bool} {k f : Nat} {fd : FDef} {ds : List D} {s : Sto} (hF : F f = some fd) (hk : keep f = false) (hl : ds.length = fd.ps) : callN F keep (k + 1) f ds s = sweep s (runF (callN F keep k) fd ds s) := by
  rw [callN, hF]
  simp [hl, hk]
theorem call_keep {F : Nat → Option FDef} {keep : Nat → Bool} {k f : Nat} {fd : FDef} {ds : List D} {s : Sto} (hF : F f = some fd) (hk : keep f = true) (hl : ds.length = fd.ps) : callN F keep (k + 1) f ds s = runF (callN F keep k) fd ds s := by
  rw [callN, hF]
  simp [hl, hk]
/-- what a table's draws are -/
structure Draws (F : Nat → Option FDef) (keep : Nat → Bool) (fpot ftake fof fcells : Nat) : Prop where
  take : ∃ p1 p2 p3 : Int, F ftake = some ⟨2, 5, takeB p1 p2 p3⟩ ∧ keep ftake = false ∧ (0 < p1 ∧ p1 < 1048576) ∧ (0 < p2 ∧ p2 < 1048576) ∧ (0 < p3 ∧ p3 < 1048576)
  pot : ∃ c1 c2 m1 c3 c4 : Int, F fpot = some ⟨2, 5, potB c1 c2 m1 c3 c4⟩ ∧ keep fpot = true ∧ (0 < c1 ∧ c1 < 1048576) ∧ (0 < c2 ∧ c2 < 1048576) ∧ (0 < m1 ∧ m1 < 1048576) ∧ (0 < c3 ∧ c3 < 1048576) ∧ (0 < c4 ∧ c4 < 1048576)
  of_ : F fof = some ⟨2, 2, ofB ftake⟩ ∧ keep fof = false
  cells : F fcells = some ⟨2, 2, cellsB⟩ ∧ keep fcells = false
section
variable {F : Nat → Option FDef} {keep : Nat → Bool} {pot take of_ cells : Nat} (W : Draws F keep pot take of_ cells)
include W
theorem take_ok {k : Nat} {s : Sto} {n : Nat} {m u : Int} (P : Pot s n m) (hm : m < 1099511627776) (hu : 0 < u) (hu2 : u < 4611686018427387904) :
    ∃ (r : Int) (c : Cell), callN F keep (k + 1) take [.loc n, .int u] s = .ok (.int r) (s.set n c) ∧ 0 ≤ r ∧ r < u ∧ Pot (s.set n c) n (m + 1) ∧ c.und s.length = true := by
  obtain ⟨p1, p2, p3, hF, hk, h1, h2, h3⟩ := W.take
  obtain ⟨a, b, c, hs, hb0, hb1, hc0, hc1⟩ := P
  rw [call_eq hF hk rfl]
  by_cases ha : 0 < a
  · refine ⟨a % u, .lst [.int (a / u), .int b, .int c], ?_, Int.emod_nonneg _ (by omega), Int.emod_lt_of_pos _ hu, ⟨_, b, c, set_at hs, hb0, hb1, hc0, by omega⟩, rfl⟩
    rw [take_own hs ha hu hu2]
    have := sweep_set (s := s) (t := []) (n := n) (c := .lst [.int (a / u), .int b, .int c]) (d := .int (a % u)) rfl rfl
    rwa [List.append_nil] at this
  · obtain ⟨r, t, e⟩ := take_drawn (o := callN F keep k) (p1 := p1) (p2 := p2) (p3 := p3) hs (by omega) hu hu2 ⟨hb0, hb1⟩ ⟨hc0, by omega⟩ h1 h2 h3
    refine ⟨r % u, .lst [.int a, .int b, .int (c + 1)], ?_, Int.emod_nonneg _ (by omega), Int.emod_lt_of_pos _ hu, ⟨_, b, c + 1, set_at hs, hb0, hb1, by omega, by omega⟩, rfl⟩
    rw [e]
    exact sweep_set rfl rfl
theorem of_ok {k : Nat} {s : Sto} {n : Nat} {m : Int} {d : D} {t : Bool} {xs : List D} (P : Pot s n m) (hm : m < 1099511627776) (h0 : sq d s = some (t, xs)) (h1 : ∀ c, sq d (s.set n c) = some (t, xs)) (hx : xs ≠ []) (hx2 : xs.length < 4611686018427387904) (hu : ∀ x ∈ xs, x.und s.length = true) :
    ∃ (x : D) (c : Cell), callN F keep (k + 2) of_ [.loc n, d] s = .ok x (s.set n c) ∧ x ∈ xs ∧ Pot (s.set n c) n (m + 1) ∧ c.und s.length = true := by
  have hl : 0 < xs.length := List.length_pos_iff.mpr hx
  obtain ⟨r, c, e, r0, r1, P', uc⟩ := take_ok W (k := k) (u := xs.length) P hm (by omega) (by omega)
  have hi : r.toNat < xs.length := by omega
  refine ⟨xs[r.toNat], c, ?_, List.getElem_mem hi, P', uc⟩
  rw [call_eq W.of_.1 W.of_.2 rfl]
  have hit : item xs r = some xs[r.toNat] := by
    rw [item_at r0 r1]
    exact List.getElem?_eq_getElem hi
  have e2 : runF (callN F keep (k + 1)) ⟨2, 2, ofB take⟩ [.loc n, d] s = .ok xs[r.toNat] (s.set n c) := by
    simp [runF, ofB, evSs, evS, ev, evs, evv, h0, e, h1 c, hit]
  rw [e2]
  have := sweep_set (s := s) (t := []) (n := n) (c := c) (d := xs[r.toNat]) uc (hu _ (List.getElem_mem hi))
  rwa [List.append_nil] at this
theorem cells_ok {k : Nat} {s : Sto} {ns : List Int} {most : Int} (hm : 0 < most ∧ most < 1000) : ∃ j : Nat, 0 < j ∧ (j : Int) ≤ most ∧ (1 < j → j ≤ ns.length) ∧ callN F keep (k + 1) cells [.flst (ns.map .int), .int most] s = .ok (.flst ((List.range j).map fun (i : Nat) => D.int (i : Int))) s := by
  refine ⟨(if 1 < (if (ns.length : Int) < most then (ns.length : Int) else most) then (if (ns.length : Int) < most then (ns.length : Int) else most) else 1).toNat, by split <;> split at * <;> omega, by split <;> split at * <;> omega, by split <;> split at * <;> omega, ?_⟩
  rw [call_eq W.cells.1 W.cells.2 rfl]
  generalize hj : (if 1 < (if (ns.length : Int) < most then (ns.length : Int) else most) then (if (ns.length : Int) < most then (ns.length : Int) else most) else 1) = j
  have hj0 : 0 < j ∧ j < 1000 := by rw [← hj]; split <;> split at * <;> omega
  have hr : rangeOf [.int j] = some ((List.range j.toNat).map fun (i : Nat) => D.int (i : Int)) := by
    unfold rangeOf
    simp only
    rw [if_pos (by omega)]
  have e : runF (callN F keep k) ⟨2, 2, cellsB⟩ [.flst (ns.map .int), .int most] s = .ok (.loc s.length) (s ++ [.lst ((List.range j.toNat).map fun (i : Nat) => D.int (i : Int))]) := by
    simp [runF, cellsB, evSs, evS, ev, evs, evv, hj, hr, sizeMax, show j.toNat ≤ 16777216 by omega]
  rw [e]
  refine sweep_new app_end (Nat.le_refl _) ?_
  generalize List.range j.toNat = l
  induction l with
  | nil => rfl
  | cons a l ih => exact ih
/-- a pot is made -/
theorem pot_ok {k : Nat} {s : Sto} {ns : List Int} {i : Nat} (hi : i < 1000) (hb : ∀ z ∈ ns, PySem.Builtin.Int.intBits z ≤ 1048576) : ∃ c, callN F keep (k + 1) pot [.flst (ns.map .int), .int i] s = .ok (.loc s.length) (s ++ [c]) ∧ Pot (s ++ [c]) s.length 0 ∧ ∃ a b d, c = .lst [.int a, .int b, .int d] := by
  obtain ⟨c1, c2, m1, c3, c4, hF, hk, h1, h2, h3, h4, h5⟩ := W.pot
  rw [call_keep hF hk rfl]
  -- the cell
  have hcell : ∃ z : Int, (ev (callN F keep k) (.ite (.cmp .lt (.var 1) (.b1 .len (.var 0))) (.idx (.var 0) (.var 1)) (.bin .add (.bin .add (.bin .mod (.bq .sum (.slc (.var 0) (.con .non) (.con (.int 1)))) (.con (.int 1000003))) (.bin .mul (.con (.int c1)) (.var 1))) (.con (.int c2)))) [some (.flst (ns.map .int)), some (.int i), none, none, none] s) = .ok (.val (.int z)) s := by
    by_cases hl : i < ns.length
    · refine ⟨ns[i], ?_⟩
      have hit : item (ns.map .int) (i : Int) = some (.int ns[i]) := by
        rw [item_at (by omega) (by simp; omega)]
        simp [hl]
      simp [ev, hl, hit]
    · have m := bin_mul (big62 (i := c1) (j := i) (by omega) (by omega))
      have hs : ∀ l : List Int, intsOf (l.map .int) = some l := fun l => by
        induction l with
        | nil => rfl
        | cons a l ih => simp [intsOf, ih]
      have hs2 : ∀ (j : Nat) (l : List Int), intsOf (List.take j (l.map .int)) = some (l.take j) := fun j l => by rw [← List.map_take]; exact hs _
      have hsl : slice (ns.map .int) none (some 1) = (ns.take (HT.sIx ns.length ns.length (some 1))).map .int := by
        unfold slice
        have : HT.sIx (ns.map D.int).length 0 none = 0 := rfl
        rw [this]
        simp
      have md : ∀ z : Int, binop .mod (.int z) (.int 1000003) = some (.int (z % 1000003)) := fun z => bin_mod (by decide)
      refine ⟨_, by
        simp only [ev, List.getElem?_cons_zero, List.getElem?_cons_succ, R.bindv_val, okv_eq, b1_len, sq_flst, Option.map_some, ofOv_some, List.length_map, cm_lt, R.ofO_some, R.bind_ok, tr_bl, Int.ofNat_lt, hl, decide_false]
        simp [part, isNonE, hsl, sqP, bq, hs2, md, m]
        rfl⟩
  obtain ⟨z, hz⟩ := hcell
  have pw1 := bin_pow (i := 10) (j := 60) ⟨by decide, by decide +kernel⟩
  have pw2 := bin_pow (i := 10 ^ (60 : Int).toNat) (j := 5) ⟨by decide, by decide +kernel⟩
  have pw3 := bin_pow (i := 10) (j := 18) ⟨by decide, by decide +kernel⟩
  generalize hz1 : (if z < 0 then -z else z) = w
  have md1 := bin_mod (i := w) (j := (10 ^ (60 : Int).toNat) ^ (5 : Int).toNat) (by decide +kernel)
  have hb1 : 0 ≤ w % ((10 ^ (60 : Int).toNat) ^ (5 : Int).toNat) := Int.emod_nonneg _ (by decide +kernel)
  have hb2 : w % ((10 ^ (60 : Int).toNat) ^ (5 : Int).toNat) < ((10 ^ (60 : Int).toNat) ^ (5 : Int).toNat) := Int.emod_lt_of_pos _ (by decide +kernel)
  generalize hw : w % ((10 ^ (60 : Int).toNat) ^ (5 : Int).toNat) = v at *
  have lv : Lg 1000 v := by
    unfold Lg
    have : ((10 ^ (60 : Int).toNat) ^ (5 : Int).toNat : Int).toNat < 2 ^ 1000 := by decide +kernel
    omega
  have hg : ∀ e : Int, (e = 0 ∨ e = 1) → bigOk v e = true := fun e he => big_of (m := 1) lv (by rcases he with rfl | rfl <;> exact lg_lit (by decide)) (by decide) (by decide) (by decide)
  have mg := fun e he => bin_mul (hg e he)
  have md2 := bin_mod (i := z) (j := 2305843009213693951) (by decide)
  have hc0 := Int.emod_nonneg z (b := 2305843009213693951) (by decide)
  have hc1 := Int.emod_lt_of_pos z (b := 2305843009213693951) (by decide)
  have m1' := bin_mul (big62 (i := z % 2305843009213693951) (j := m1) (by omega) (by omega))
  have m3 := bin_mul (big62 (i := c3) (j := i) (by omega) (by omega))
  have l3 : 0 ≤ c3 * i ∧ c3 * i < 4611686018427387904 := by
    refine ⟨Int.mul_nonneg (by omega) (by omega), ?_⟩
    have : c3 * i ≤ 1048576 * 1000 := Int.mul_le_mul (by omega) (by omega) (by omega) (by decide)
    omega
  have m4 := bin_mul (big62 (i := c3 * i) (j := i) (by omega) (by omega))
  have md3 := bin_mod (i := z % 2305843009213693951 * m1 + c3 * i * i + c4) (j := 2305843009213693921) (by decide)
  have hd0 := Int.emod_nonneg (z % 2305843009213693951 * m1 + c3 * i * i + c4) (b := 2305843009213693921) (by decide)
  have hd1 := Int.emod_lt_of_pos (z % 2305843009213693951 * m1 + c3 * i * i + c4) (b := 2305843009213693921) (by decide)
  have m5 := mg (if decide ((10 : Int) ^ (18 : Int).toNat ≤ w) = true then 1 else 0) (by split <;> simp)
  generalize hg18 : (if decide ((10 : Int) ^ (18 : Int).toNat ≤ w) = true then (1 : Int) else 0) = g at *
  refine ⟨.lst [.int (v * g), .int ((z % 2305843009213693951 * m1 + c3 * i * i + c4) % 2305843009213693921), .int 0], ?_, ⟨_, _, _, app_end, hd0, by omega, by decide, by decide⟩, _, _, _, rfl⟩
  unfold runF potB
  simp only [evSs, evS, evv, List.map_cons, List.map_nil, List.length_cons, List.length_nil, List.replicate, List.cons_append, List.nil_append, hz]
  simp only [R.bind_ok, lay_val, R.toS_ok, bt_nm, List.set_cons_succ, List.set_cons_zero, ev, evs, List.getElem?_cons_zero, List.getElem?_cons_succ, R.bindv_val, okv_eq, b1_abs, ofOv_some, b1_int, hz1, pw1, pw2, md1, pw3, cm_ge, R.ofO_some, b1_bl, hg18]
  simp [m5, md2, m1', m3, m4, md3, hw, sizeMax]
omit W in
theorem Pot.lt {s : Sto} {n : Nat} {m : Int} (P : Pot s n m) : n < s.length := by
  obtain ⟨a, b, c, h, _⟩ := P
  exact (List.getElem?_eq_some_iff.mp h).1
omit W in
theorem Pot.le {s : Sto} {n : Nat} {m m' : Int} (P : Pot s n m) (h : m ≤ m') : Pot s n m' := by
  obtain ⟨a, b, c, h1, h2, h3, h4, h5⟩ := P
  exact ⟨a, b, c, h1, h2, h3, h4, by omega⟩
omit W in
theorem Pot.app {s t : Sto} {n : Nat} {m : Int} (P : Pot s n m) : Pot (s ++ t) n m := by
  obtain ⟨a, b, c, h1, h⟩ := P
  exact ⟨a, b, c, app_at h1, h⟩
omit W in
theorem Pot.cut {s t : Sto} {n : Nat} {m : Int} (hn : n < s.length) (P : Pot (s ++ t) n m) : Pot s n m := by
  obtain ⟨a, b, c, h1, h⟩ := P
  rw [List.getElem?_append_left hn] at h1
  exact ⟨a, b, c, h1, h⟩
omit W in
theorem set_app {s t : Sto} {n : Nat} {c c' : Cell} (hn : n < s.length) : (s.set n c ++ t).set n c' = s.set n c' ++ t := by
  rw [List.set_append_left _ _ (by simpa using hn), List.set_set]
omit W in
theorem set_app0 {s t : Sto} {n : Nat} {c' : Cell} (hn : n < s.length) : (s ++ t).set n c' = s.set n c' ++ t := by
  rw [List.set_append_left _ _ hn]
/-- a draw, beside things that came since -/
theorem take_at {k : Nat} {s t : Sto} {n : Nat} {c0 : Cell} {m u : Int} (hn : n < s.length) (P : Pot (s.set n c0 ++ t) n m) (hm : m < 1099511627776) (hu : 0 < u) (hu2 : u < 4611686018427387904) :
    ∃ (r : Int) (c : Cell), callN F keep (k + 1) take [.loc n, .int u] (s.set n c0 ++ t) = .ok (.int r) (s.set n c ++ t) ∧ 0 ≤ r ∧ r < u ∧ Pot (s.set n c ++ t) n (m + 1) ∧ c.und s.length = true := by
  obtain ⟨r, c, e, h1, h2, h3, h4⟩ := take_ok W (k := k) P hm hu hu2
  rw [set_app hn] at e h3
  refine ⟨r, c, e, h1, h2, h3, ?_⟩
  obtain ⟨a, b, d, hc, _⟩ := h3
  rw [List.getElem?_append_left (by simpa using hn), List.getElem?_set_self hn] at hc
  cases hc
  rfl
/-- one of a list that came last -/
theorem of_at {k : Nat} {s t : Sto} {n : Nat} {c0 : Cell} {m : Int} {xs : List D} {j : Nat} (hn : n < s.length) (P : Pot (s.set n c0 ++ t) n m) (hm : m < 1099511627776) (hj : (s.set n c0 ++ t)[j]? = some (.lst xs)) (hjn : n ≠ j) (hx : xs ≠ []) (hx2 : xs.length < 4611686018427387904) (hu : ∀ x ∈ xs, x.und (s.length + t.length) = true) :
    ∃ (x : D) (c : Cell), callN F keep (k + 2) of_ [.loc n, .loc j] (s.set n c0 ++ t) = .ok x (s.set n c ++ t) ∧ x ∈ xs ∧ Pot (s.set n c ++ t) n (m + 1) ∧ c.und s.length = true := by
  obtain ⟨x, c, e, h1, h3, h4⟩ := of_ok W (k := k) P hm (sq_loc hj) (fun c => sq_loc (by rw [List.getElem?_set_ne hjn]; exact hj)) hx hx2 (by simpa using hu)
  rw [set_app hn] at e h3
  refine ⟨x, c, e, h1, h3, ?_⟩
  obtain ⟨a, b, d, hc, _⟩ := h3
  rw [List.getElem?_append_left (by simpa using hn), List.getElem?_set_self hn] at hc
  cases hc
  rfl
/-- one of a list of ints that was laid just now -/
theorem of_ints {k : Nat} {s t : Sto} {n : Nat} {c0 : Cell} {m : Int} (L : List Int) {j : Nat} (hn : n < s.length) (P : Pot (s.set n c0 ++ t) n m) (hm : m < 1099511627776) (hj : j = s.length + t.length) (hx : L ≠ []) (hx2 : L.length < 1000) :
    ∃ (r : Int) (c : Cell), callN F keep (k + 2) of_ [.loc n, .loc j] (s.set n c0 ++ (t ++ [.lst (L.map .int)])) = .ok (.int r) (s.set n c ++ (t ++ [.lst (L.map .int)])) ∧ r ∈ L ∧ Pot (s.set n c ++ (t ++ [.lst (L.map .int)])) n (m + 1) ∧ c.und s.length = true := by
  have P' : Pot (s.set n c0 ++ (t ++ [.lst (L.map .int)])) n m := by
    rw [← List.append_assoc]
    exact P.app
  have at_ : (s.set n c0 ++ (t ++ [.lst (L.map .int)]))[j]? = some (.lst (L.map .int)) := by
    subst hj
    rw [List.getElem?_append_right (by simp), List.getElem?_append_right (by simp)]
    simp
  obtain ⟨x, c, e, h1, h2, h3⟩ := of_at W (k := k) hn P' hm at_ (by omega) (by simpa using hx) (by simp; omega) (fun x hx => by
    obtain ⟨i, _, rfl⟩ := List.mem_map.mp hx
    rfl)
  obtain ⟨r, hr, rfl⟩ := List.mem_map.mp h1
  exact ⟨r, c, e, hr, h2, h3⟩
/-- the cells' answers -/
theorem rights {fr : Nat} {ns : List Int} (hb : ∀ z ∈ ns, PySem.Builtin.Int.intBits z ≤ 1048576) {k : Nat} {own : Option D} (hr : ∀ (s : Sto) (n : Nat), Pot s n 0 → ∃ c, callN F keep (k + 1) fr [.loc n] s = .ok (.bl true) (s.set n c)) :
    ∀ (l : List Nat) (s : Sto), (∀ i ∈ l, i < 1000) → ∃ t, mapR (turnC (.nm 1) [1] [some (.flst (ns.map .int)), own] fun env s => ev (callN F keep (k + 1)) (cellE fr pot) env s) (l.map fun (i : Nat) => D.int (i : Int)) s = .ok (l.map fun _ => .bl true) (s ++ t)
  | [], s, _ => ⟨[], by simp [mapR]⟩
  | i :: l, s, hl => by
    obtain ⟨c, e1, P, _⟩ := pot_ok W (k := k) (s := s) (ns := ns) (i := i) (hl i List.mem_cons_self) hb
    obtain ⟨c', e2⟩ := hr _ _ P
    have e3 : (s ++ [c]).set s.length c' = s ++ [c'] := by
      rw [List.set_append_right _ _ (Nat.le_refl _)]
      simp
    rw [e3] at e2
    obtain ⟨t, ih⟩ := rights hb (own := own) hr l (s ++ [c']) fun j hj => hl j (List.mem_cons_of_mem _ hj)
    refine ⟨[c'] ++ t, ?_⟩
    rw [List.append_assoc] at ih
    have st : turnC (.nm 1) [1] [some (.flst (ns.map .int)), own] (fun env s => ev (callN F keep (k + 1)) (cellE fr pot) env s) (.int i) s = .ok (.bl true) (s ++ [c']) := by
      simp [turnC, wipe, cellE, ev, evs, e1, e2]
    rw [List.map_cons]
    unfold mapR
    rw [st]
    simp only [R.bind_ok, ih]
    rfl
/-- a law of that shape -/
theorem law_all {fr fl : Nat} {most : Int} (hF : F fl = some ⟨1, 2, lawB fr pot cells most⟩) (hk : keep fl = false) (hm : 0 < most ∧ most < 1000) {ns : List Int} (hb : ∀ z ∈ ns, PySem.Builtin.Int.intBits z ≤ 1048576) {k : Nat}
    (hr : ∀ (s : Sto) (n : Nat), Pot s n 0 → ∃ c, callN F keep (k + 1) fr [.loc n] s = .ok (.bl true) (s.set n c)) : ∃ s, callN F keep (k + 2) fl (scr ns) [] = .ok (.bl true) s := by
  obtain ⟨j, j0, j1, _, ec⟩ := cells_ok W (k := k) (s := []) (ns := ns) (most := most) hm
  obtain ⟨t, e⟩ := rights W hb (own := none) hr (List.range j) [] (fun i hi => by have := List.mem_range.mp hi; omega)
  refine ⟨[], (call_eq hF hk rfl).trans ?_⟩
  have hb2 : ∀ l : List Nat, boolsOf (l.map fun _ => D.bl true) = some (l.map fun _ => true) := fun l => by
    induction l with
    | nil => rfl
    | cons a l ih => simp [boolsOf, ih]
  have hj : j ≤ 16777216 := by omega
  have : runF (callN F keep (k + 1)) ⟨1, 2, lawB fr pot cells most⟩ (scr ns) [] = .ok (.bl true) ([] ++ t) := by
    simp [runF, lawB, scr, evSs, evS, ev, evs, evv, ec, srcP, e, sizeMax, hj, sqP, bq, hb2]
  rw [this]
  exact sweep_val rfl
end
end Mi

/-! # The table of roadqueues_k23_numbers_of_keepers (printed by mk.py) -/
namespace K23
open PySem PySem.Spec PyProof.Rows L2 Mi
abbrev prog : PySem.Program := PySem.Challenge.pw_roadqueues_k23_numbers_of_keepers
def top (i : Nat) : Stmt := prog.main.body.getD i (.Pass ⟨0, 0, 0, 0⟩)
def g_MOST_BURST : Mi.D := (.int 50)
def g_MOST_PARTS : Mi.D := (.int 100)
def g_MOST_WAY : Mi.D := (.int 12)
def g_TRIPLE : Mi.D := (.int 3)
abbrev f_is_integer : Nat := 0
abbrev f_is_within : Nat := 1
abbrev f_is_share : Nat := 2
abbrev f_check_rate : Nat := 3
abbrev f_check_most : Nat := 4
abbrev f_keeper_bound : Nat := 5
abbrev f__law_pot : Nat := 6
abbrev f__law_take : Nat := 7
abbrev f__law_of : Nat := 8
abbrev f__law_cells : Nat := 9
abbrev f__law_bound : Nat := 10
abbrev f__law_younger_number : Nat := 11
abbrev f__law_is_elder_number : Nat := 12
abbrev f__law_drawn_rate : Nat := 13
abbrev f__law_right : Nat := 14
abbrev f_law : Nat := 15
def b_is_integer : Ss :=
    (.cons (.ret (.and (.cons (.b1 (.isi .int) (.var 0)) (.cons (.not (.b1 (.isi .bool) (.var 0))) .nil))))
    .nil)
def d_is_integer : FDef := ⟨1, 1, b_is_integer⟩
def n_is_integer : FN := ⟨⟨("is_integer", none), "is_integer", "is_integer", defArgs (top 5), defBody (top 5), defScope (top 5), [], []⟩, ["value"], ["value"], d_is_integer, []⟩
def b_is_within : Ss :=
    (.cons (.ret (.and (.cons (.fn f_is_integer (.cons (.var 0) .nil)) (.cons (.chn .le .le (.var 1) (.var 0) (.var 2)) .nil))))
    .nil)
def d_is_within : FDef := ⟨3, 3, b_is_within⟩
def n_is_within : FN := ⟨⟨("is_within", none), "is_within", "is_within", defArgs (top 6), defBody (top 6), defScope (top 6), [], []⟩, ["value", "least", "most"], ["value", "least", "most"], d_is_within, []⟩
def b_is_share : Ss :=
    (.cons (.ret (.and (.cons (.fn f_is_within (.cons (.var 1) (.cons (.con (.int 1)) (.cons (.glo g_MOST_PARTS) .nil)))) (.cons (.fn f_is_within (.cons (.var 0) (.cons (.con (.int 1)) (.cons (.bin .sub (.var 1) (.con (.int 1))) .nil)))) .nil))))
    .nil)
def d_is_share : FDef := ⟨2, 2, b_is_share⟩
def n_is_share : FN := ⟨⟨("is_share", none), "is_share", "is_share", defArgs (top 11), defBody (top 11), defScope (top 11), [], []⟩, ["p", "q"], ["p", "q"], d_is_share, []⟩
def b_check_rate : Ss :=
    (.cons (.iff (.or (.cons (.not (.b1 (.isi .tuple) (.var 0))) (.cons (.cmp .ne (.b1 .len (.var 0)) (.glo g_TRIPLE)) .nil))) (.cons (.rais "" (.con .non))
    .nil) .nil)
    (.cons (.asg (.tp [1, 2, 3]) (.var 0))
    (.cons (.iff (.or (.cons (.not (.fn f_is_share (.cons (.var 1) (.cons (.var 2) .nil)))) (.cons (.not (.fn f_is_within (.cons (.var 3) (.cons (.con (.int 1)) (.cons (.glo g_MOST_BURST) .nil))))) .nil))) (.cons (.rais "" (.con .non))
    .nil) .nil)
    .nil)))
def d_check_rate : FDef := ⟨1, 4, b_check_rate⟩
def n_check_rate : FN := ⟨⟨("check_rate", none), "check_rate", "check_rate", defArgs (top 12), defBody (top 12), defScope (top 12), [], []⟩, ["rate", "p", "q", "burst"], ["rate"], d_check_rate, []⟩
def b_check_most : Ss :=
    (.cons (.iff (.not (.fn f_is_within (.cons (.var 0) (.cons (.con (.int 1)) (.cons (.glo g_MOST_WAY) .nil))))) (.cons (.rais "" (.con .non))
    .nil) .nil)
    .nil)
def d_check_most : FDef := ⟨1, 1, b_check_most⟩
def n_check_most : FN := ⟨⟨("check_most", none), "check_most", "check_most", defArgs (top 15), defBody (top 15), defScope (top 15), [], []⟩, ["most"], ["most"], d_check_most, []⟩
def l1_keeper_bound : Ss :=
    (.cons (.asg (.nm 5) (.bin .add (.bin .fdv (.bin .mul (.bin .sub (.bin .add (.var 5) (.var 4)) (.con (.int 1))) (.var 3)) (.bin .sub (.var 3) (.var 2))) (.con (.int 1))))
    .nil)
def b_keeper_bound : Ss :=
    (.cons (.expr (.fn f_check_rate (.cons (.var 0) .nil)))
    (.cons (.expr (.fn f_check_most (.cons (.var 1) .nil)))
    (.cons (.asg (.tp [2, 3, 4]) (.var 0))
    (.cons (.asg (.nm 5) (.con (.int 0)))
    (.cons (.fr (.nm 6) (.rng (.cons (.var 1) .nil)) l1_keeper_bound)
    (.cons (.ret (.var 5))
    .nil))))))
def d_keeper_bound : FDef := ⟨2, 7, b_keeper_bound⟩
def n_keeper_bound : FN := ⟨⟨("keeper_bound", none), "keeper_bound", "keeper_bound", defArgs (top 16), defBody (top 16), defScope (top 16), [], []⟩, ["rate", "most", "p", "q", "burst", "found", "lap"], ["rate", "most"], d_keeper_bound, [(["most", "rate"], [1, 0])]⟩
def b__law_pot : Ss :=
    potB 1427 685 73723 8441 713
def d__law_pot : FDef := ⟨2, 5, b__law_pot⟩
def n__law_pot : FN := ⟨⟨("_law_pot", none), "_law_pot", "_law_pot", defArgs (top 18), defBody (top 18), defScope (top 18), [], []⟩, ["script", "place", "cell", "own", "small"], ["script", "place"], d__law_pot, []⟩
def b__law_take : Ss :=
    takeB 98747 695 10387
def d__law_take : FDef := ⟨2, 5, b__law_take⟩
def n__law_take : FN := ⟨⟨("_law_take", none), "_law_take", "_law_take", defArgs (top 19), defBody (top 19), defScope (top 19), [], []⟩, ["pot", "upto", "digit", "prime", "blend"], ["pot", "upto"], d__law_take, []⟩
def b__law_of : Ss :=
    ofB f__law_take
def d__law_of : FDef := ⟨2, 2, b__law_of⟩
def n__law_of : FN := ⟨⟨("_law_of", none), "_law_of", "_law_of", defArgs (top 20), defBody (top 20), defScope (top 20), [], []⟩, ["pot", "some"], ["pot", "some"], d__law_of, []⟩
def b__law_cells : Ss :=
    cellsB
def d__law_cells : FDef := ⟨2, 2, b__law_cells⟩
def n__law_cells : FN := ⟨⟨("_law_cells", none), "_law_cells", "_law_cells", defArgs (top 21), defBody (top 21), defScope (top 21), [], []⟩, ["script", "most"], ["script", "most"], d__law_cells, []⟩
def l1__law_bound : Ss :=
    (.cons (.asg (.nm 5) (.bin .add (.bin .fdv (.bin .mul (.bin .sub (.bin .add (.var 5) (.var 4)) (.con (.int 1))) (.var 3)) (.bin .sub (.var 3) (.var 2))) (.con (.int 1))))
    .nil)
def b__law_bound : Ss :=
    (.cons (.asg (.tp [2, 3, 4]) (.var 0))
    (.cons (.asg (.nm 5) (.con (.int 0)))
    (.cons (.fr (.nm 6) (.rng (.cons (.var 1) .nil)) l1__law_bound)
    (.cons (.ret (.var 5))
    .nil))))
def d__law_bound : FDef := ⟨2, 7, b__law_bound⟩
def n__law_bound : FN := ⟨⟨("_law_bound", none), "_law_bound", "_law_bound", defArgs (top 22), defBody (top 22), defScope (top 22), [], []⟩, ["rate", "most", "p", "q", "burst", "found", "lap"], ["rate", "most"], d__law_bound, []⟩
def l1__law_younger_number : Ss :=
    (.cons (.asg (.nm 8) (.bin .sub (.bin .add (.bin .fdv (.bin .mul (.bin .add (.bin .add (.var 5) (.var 7)) (.con (.int 1))) (.var 2)) (.var 3)) (.var 4)) (.con (.int 1))))
    (.cons (.iff (.cmp .le (.var 8) (.var 7)) (.cons .brk
    .nil) .nil)
    (.cons (.asg (.nm 7) (.var 8))
    .nil)))
def l2__law_younger_number : Ss :=
    (.cons (.asg (.nm 7) (.con (.int 0)))
    (.cons (.whl (.con (.bl true)) l1__law_younger_number)
    (.cons (.asg (.nm 5) (.bin .add (.bin .add (.var 5) (.var 7)) (.con (.int 1))))
    .nil)))
def b__law_younger_number : Ss :=
    (.cons (.asg (.tp [2, 3, 4]) (.var 0))
    (.cons (.asg (.nm 5) (.con (.int 0)))
    (.cons (.fr (.nm 6) (.rng (.cons (.var 1) .nil)) l2__law_younger_number)
    (.cons (.ret (.var 5))
    .nil))))
def d__law_younger_number : FDef := ⟨2, 9, b__law_younger_number⟩
def n__law_younger_number : FN := ⟨⟨("_law_younger_number", none), "_law_younger_number", "_law_younger_number", defArgs (top 23), defBody (top 23), defScope (top 23), [], []⟩, ["rate", "most", "p", "q", "burst", "behind", "lap", "wait", "longer"], ["rate", "most"], d__law_younger_number, []⟩
def l1__law_is_elder_number : Ss :=
    (.cons (.asg (.nm 6) (.bin .add (.bin .add (.var 6) (.bin .fdv (.bin .mul (.bin .sub (.var 2) (.var 6)) (.var 3)) (.var 4))) (.var 5)))
    .nil)
def b__law_is_elder_number : Ss :=
    (.cons (.asg (.tp [3, 4, 5]) (.var 0))
    (.cons (.asg (.nm 6) (.con (.int 0)))
    (.cons (.fr (.nm 7) (.rng (.cons (.var 1) .nil)) l1__law_is_elder_number)
    (.cons (.ret (.cmp .le (.var 6) (.var 2)))
    .nil))))
def d__law_is_elder_number : FDef := ⟨3, 8, b__law_is_elder_number⟩
def n__law_is_elder_number : FN := ⟨⟨("_law_is_elder_number", none), "_law_is_elder_number", "_law_is_elder_number", defArgs (top 24), defBody (top 24), defScope (top 24), [], []⟩, ["rate", "most", "number", "p", "q", "burst", "behind", "lap"], ["rate", "most", "number"], d__law_is_elder_number, []⟩
def b__law_drawn_rate : Ss :=
    (.cons (.asg (.nm 1) (.bin .add (.con (.int 2)) (.fn f__law_take (.cons (.var 0) (.cons (.con (.int 99)) .nil)))))
    (.cons (.asg (.nm 2) (.fn f__law_of (.cons (.var 0) (.cons (.lst (.cons (.con (.int 1)) (.cons (.bin .sub (.var 1) (.con (.int 1))) (.cons (.bin .add (.con (.int 1)) (.fn f__law_take (.cons (.var 0) (.cons (.bin .sub (.var 1) (.con (.int 1))) .nil)))) (.cons (.bin .fdv (.var 1) (.con (.int 2))) .nil))))) .nil))))
    (.cons (.ret (.tup (.cons (.b1 .int (.var 2)) (.cons (.b1 .int (.var 1)) (.cons (.b1 .int (.bin .add (.con (.int 1)) (.fn f__law_of (.cons (.var 0) (.cons (.lst (.cons (.con (.int 0)) (.cons (.con (.int 0)) (.cons (.con (.int 1)) (.cons (.con (.int 2)) (.cons (.fn f__law_take (.cons (.var 0) (.cons (.con (.int 50)) .nil))) .nil)))))) .nil))))) .nil)))))
    .nil)))
def d__law_drawn_rate : FDef := ⟨1, 3, b__law_drawn_rate⟩
def n__law_drawn_rate : FN := ⟨⟨("_law_drawn_rate", none), "_law_drawn_rate", "_law_drawn_rate", defArgs (top 25), defBody (top 25), defScope (top 25), [], []⟩, ["pot", "q", "p"], ["pot"], d__law_drawn_rate, []⟩
def l1__law_right : Ss :=
    (.cons (.par [2, 3] (.cons (.fn f__law_drawn_rate (.cons (.var 0) .nil)) (.cons (.bin .add (.con (.int 1)) (.fn f__law_of (.cons (.var 0) (.cons (.lst (.cons (.con (.int 0)) (.cons (.con (.int 1)) (.cons (.con (.int 2)) (.cons (.con (.int 3)) (.cons (.con (.int 4)) (.cons (.fn f__law_take (.cons (.var 0) (.cons (.con (.int 12)) .nil))) .nil))))))) .nil)))) .nil)))
    (.cons (.asg (.nm 4) (.fn f__law_bound (.cons (.var 2) (.cons (.var 3) .nil))))
    (.cons (.iff (.cmp .ne (.b1 .repr (.fnk f_keeper_bound (.cons (.b1 .int (.var 3)) (.cons (.var 2) .nil)) ["most", "rate"] [1, 0])) (.b1 .repr (.var 4))) (.cons (.ret (.con (.bl false)))
    .nil) .nil)
    (.cons (.iff (.and (.cons (.cmp .le (.bin .mul (.idx (.var 2) (.con (.int 0))) (.con (.int 10))) (.bin .mul (.idx (.var 2) (.con (.int 1))) (.con (.int 7)))) (.cons (.cmp .ne (.fn f__law_younger_number (.cons (.var 2) (.cons (.b2 .min (.var 3) (.con (.int 4))) .nil))) (.fn f__law_bound (.cons (.var 2) (.cons (.b2 .min (.var 3) (.con (.int 4))) .nil)))) .nil))) (.cons (.ret (.con (.bl false)))
    .nil) .nil)
    (.cons (.iff (.or (.cons (.not (.fn f__law_is_elder_number (.cons (.var 2) (.cons (.var 3) (.cons (.var 4) .nil))))) (.cons (.fn f__law_is_elder_number (.cons (.var 2) (.cons (.var 3) (.cons (.bin .sub (.var 4) (.con (.int 1))) .nil)))) .nil))) (.cons (.ret (.con (.bl false)))
    .nil) .nil)
    .nil)))))
def b__law_right : Ss :=
    (.cons (.fr (.nm 1) (.rng (.cons (.con (.int 6)) .nil)) l1__law_right)
    (.cons (.ret (.con (.bl true)))
    .nil))
def d__law_right : FDef := ⟨1, 5, b__law_right⟩
def n__law_right : FN := ⟨⟨("_law_right", none), "_law_right", "_law_right", defArgs (top 26), defBody (top 26), defScope (top 26), [], []⟩, ["pot", "lap", "rate", "most", "due"], ["pot"], d__law_right, []⟩
def e1_law : E := (.fn f__law_right (.cons (.fn f__law_pot (.cons (.var 0) (.cons (.var 1) .nil))) .nil))
def b_law : Ss :=
    lawB f__law_right f__law_pot f__law_cells 2
def d_law : FDef := ⟨1, 2, b_law⟩
def n_law : FN := ⟨⟨("law", none), "law", "law", defArgs (top 27), defBody (top 27), defScope (top 27), [], []⟩, ["script", "place"], ["script"], d_law, []⟩
def tb : List FN := [n_is_integer, n_is_within, n_is_share, n_check_rate, n_check_most, n_keeper_bound, n__law_pot, n__law_take, n__law_of, n__law_cells, n__law_bound, n__law_younger_number, n__law_is_elder_number, n__law_drawn_rate, n__law_right, n_law]
def frees : List Str := ["abs", "all", "bool", "int", "isinstance", "len", "list", "max", "min", "range", "repr", "sum", "tuple"]
def glos : List (Str × Mi.D) := [("MOST_BURST", g_MOST_BURST), ("MOST_PARTS", g_MOST_PARTS), ("MOST_WAY", g_MOST_WAY), ("TRIPLE", g_TRIPLE)]
def keep (f : Nat) : Bool := decide (f = f__law_pot)
abbrev T : Tab := tabOf tb frees keep glos
theorem ok_is_integer : n_is_integer.Ok T := by
  refine ⟨rfl, rfl, ⟨?_, ?_, ?_, ?_, ?_, ?_, ?_⟩, ?_, rfl, rfl, ?_, ?_⟩
  · decide +kernel
  · decide +kernel
  · decide +kernel
  · decide +kernel
  · decide +kernel
  · decide +kernel
  · decide +kernel
  · decide +kernel
  · intro _ _ _ _ _ _ us hl
    match us, hl with
    | [_], _ => rfl
  · intro q hq
    cases hq
theorem ok_is_within : n_is_within.Ok T := by
  refine ⟨rfl, rfl, ⟨?_, ?_, ?_, ?_, ?_, ?_, ?_⟩, ?_, rfl, rfl, ?_, ?_⟩
  · decide +kernel
  · decide +kernel
  · decide +kernel
  · decide +kernel
  · decide +kernel
  · decide +kernel
  · decide +kernel
  · decide +kernel
  · intro _ _ _ _ _ _ us hl
    match us, hl with
    | [_, _, _], _ => rfl
  · intro q hq
    cases hq
theorem ok_is_share : n_is_share.Ok T := by
  refine ⟨rfl, rfl, ⟨?_, ?_, ?_, ?_, ?_, ?_, ?_⟩, ?_, rfl, rfl, ?_, ?_⟩
  · decide +kernel
  · decide +kernel
  · decide +kernel
  · decide +kernel
  · decide +kernel
  · decide +kernel
  · decide +kernel
  · decide +kernel
  · intro _ _ _ _ _ _ us hl
    match us, hl with
    | [_, _], _ => rfl
  · intro q hq
    cases hq
theorem ok_check_rate : n_check_rate.Ok T := by
  refine ⟨rfl, rfl, ⟨?_, ?_, ?_, ?_, ?_, ?_, ?_⟩, ?_, rfl, rfl, ?_, ?_⟩
  · decide +kernel
  · decide +kernel
  · decide +kernel
  · decide +kernel
  · decide +kernel
  · decide +kernel
  · decide +kernel
  · decide +kernel
  · intro _ _ _ _ _ _ us hl
    match us, hl with
    | [_], _ => rfl
  · intro q hq
    cases hq
theorem ok_check_most : n_check_most.Ok T := by
  refine ⟨rfl, rfl, ⟨?_, ?_, ?_, ?_, ?_, ?_, ?_⟩, ?_, rfl, rfl, ?_, ?_⟩
  · decide +kernel
  · decide +kernel
  · decide +kernel
  · decide +kernel
  · decide +kernel
  · decide +kernel
  · decide +kernel
  · decide +kernel
  · intro _ _ _ _ _ _ us hl
    match us, hl with
    | [_], _ => rfl
  · intro q hq
    cases hq
theorem ok_keeper_bound : n_keeper_bound.Ok T := by
  refine ⟨rfl, rfl, ⟨?_, ?_, ?_, ?_, ?_, ?_, ?_⟩, ?_, rfl, rfl, ?_, ?_⟩
  · decide +kernel
  · decide +kernel
  · decide +kernel
  · decide +kernel
  · decide +kernel
  · decide +kernel
  · decide +kernel
  · decide +kernel
  · intro _ _ _ _ _ _ us hl
    match us, hl with
    | [_, _], _ => rfl
  · intro q hq
    simp only [n_keeper_bound, List.mem_cons, List.not_mem_nil, or_false] at hq
    subst hq
    intro _ _ _ _ _ _ us ws hl hp
    match us, hl, hp with
    | [u0, u1], _, hp => cases hp; rfl
theorem ok__law_pot : n__law_pot.Ok T := by
  refine ⟨rfl, rfl, ⟨?_, ?_, ?_, ?_, ?_, ?_, ?_⟩, ?_, rfl, rfl, ?_, ?_⟩
  · decide +kernel
  · decide +kernel
  · decide +kernel
  · decide +kernel
  · decide +kernel
  · decide +kernel
  · decide +kernel
  · decide +kernel
  · intro _ _ _ _ _ _ us hl
    match us, hl with
    | [_, _], _ => rfl
  · intro q hq
    cases hq
theorem ok__law_take : n__law_take.Ok T := by
  refine ⟨rfl, rfl, ⟨?_, ?_, ?_, ?_, ?_, ?_, ?_⟩, ?_, rfl, rfl, ?_, ?_⟩
  · decide +kernel
  · decide +kernel
  · decide +kernel
  · decide +kernel
  · decide +kernel
  · decide +kernel
  · decide +kernel
  · decide +kernel
  · intro _ _ _ _ _ _ us hl
    match us, hl with
    | [_, _], _ => rfl
  · intro q hq
    cases hq
theorem ok__law_of : n__law_of.Ok T := by
  refine ⟨rfl, rfl, ⟨?_, ?_, ?_, ?_, ?_, ?_, ?_⟩, ?_, rfl, rfl, ?_, ?_⟩
  · decide +kernel
  · decide +kernel
  · decide +kernel
  · decide +kernel
  · decide +kernel
  · decide +kernel
  · decide +kernel
  · decide +kernel
  · intro _ _ _ _ _ _ us hl
    match us, hl with
    | [_, _], _ => rfl
  · intro q hq
    cases hq
theorem ok__law_cells : n__law_cells.Ok T := by
  refine ⟨rfl, rfl, ⟨?_, ?_, ?_, ?_, ?_, ?_, ?_⟩, ?_, rfl, rfl, ?_, ?_⟩
  · decide +kernel
  · decide +kernel
  · decide +kernel
  · decide +kernel
  · decide +kernel
  · decide +kernel
  · decide +kernel
  · decide +kernel
  · intro _ _ _ _ _ _ us hl
    match us, hl with
    | [_, _], _ => rfl
  · intro q hq
    cases hq
theorem ok__law_bound : n__law_bound.Ok T := by
  refine ⟨rfl, rfl, ⟨?_, ?_, ?_, ?_, ?_, ?_, ?_⟩, ?_, rfl, rfl, ?_, ?_⟩
  · decide +kernel
  · decide +kernel
  · decide +kernel
  · decide +kernel
  · decide +kernel
  · decide +kernel
  · decide +kernel
  · decide +kernel
  · intro _ _ _ _ _ _ us hl
    match us, hl with
    | [_, _], _ => rfl
  · intro q hq
    cases hq
theorem ok__law_younger_number : n__law_younger_number.Ok T := by
  refine ⟨rfl, rfl, ⟨?_, ?_, ?_, ?_, ?_, ?_, ?_⟩, ?_, rfl, rfl, ?_, ?_⟩
  · decide +kernel
  · decide +kernel
  · decide +kernel
  · decide +kernel
  · decide +kernel
  · decide +kernel
  · decide +kernel
  · decide +kernel
  · intro _ _ _ _ _ _ us hl
    match us, hl with
    | [_, _], _ => rfl
  · intro q hq
    cases hq
theorem ok__law_is_elder_number : n__law_is_elder_number.Ok T := by
  refine ⟨rfl, rfl, ⟨?_, ?_, ?_, ?_, ?_, ?_, ?_⟩, ?_, rfl, rfl, ?_, ?_⟩
  · decide +kernel
  · decide +kernel
  · decide +kernel
  · decide +kernel
  · decide +kernel
  · decide +kernel
  · decide +kernel
  · decide +kernel
  · intro _ _ _ _ _ _ us hl
    match us, hl with
    | [_, _, _], _ => rfl
  · intro q hq
    cases hq
theorem ok__law_drawn_rate : n__law_drawn_rate.Ok T := by
  refine ⟨rfl, rfl, ⟨?_, ?_, ?_, ?_, ?_, ?_, ?_⟩, ?_, rfl, rfl, ?_, ?_⟩
  · decide +kernel
  · decide +kernel
  · decide +kernel
  · decide +kernel
  · decide +kernel
  · decide +kernel
  · decide +kernel
  · decide +kernel
  · intro _ _ _ _ _ _ us hl
    match us, hl with
    | [_], _ => rfl
  · intro q hq
    cases hq
theorem ok__law_right : n__law_right.Ok T := by
  refine ⟨rfl, rfl, ⟨?_, ?_, ?_, ?_, ?_, ?_, ?_⟩, ?_, rfl, rfl, ?_, ?_⟩
  · decide +kernel
  · decide +kernel
  · decide +kernel
  · decide +kernel
  · decide +kernel
  · decide +kernel
  · decide +kernel
  · decide +kernel
  · intro _ _ _ _ _ _ us hl
    match us, hl with
    | [_], _ => rfl
  · intro q hq
    cases hq
theorem ok_law : n_law.Ok T := by
  refine ⟨rfl, rfl, ⟨?_, ?_, ?_, ?_, ?_, ?_, ?_⟩, ?_, rfl, rfl, ?_, ?_⟩
  · decide +kernel
  · decide +kernel
  · decide +kernel
  · decide +kernel
  · decide +kernel
  · decide +kernel
  · decide +kernel
  · decide +kernel
  · intro _ _ _ _ _ _ us hl
    match us, hl with
    | [_], _ => rfl
  · intro q hq
    cases hq
theorem draws : Draws T.fdef keep f__law_pot f__law_take f__law_of f__law_cells :=
  ⟨⟨_, _, _, rfl, rfl, by decide, by decide, by decide⟩, ⟨_, _, _, _, _, rfl, rfl, by decide, by decide, by decide, by decide, by decide⟩, ⟨rfl, rfl⟩, ⟨rfl, rfl⟩⟩
theorem oks : ∀ n ∈ tb, n.Ok T := by
  simp only [tb, List.forall_mem_cons]
  exact ⟨ok_is_integer, ok_is_within, ok_is_share, ok_check_rate, ok_check_most, ok_keeper_bound, ok__law_pot, ok__law_take, ok__law_of, ok__law_cells, ok__law_bound, ok__law_younger_number, ok__law_is_elder_number, ok__law_drawn_rate, ok__law_right, ok_law, fun _ h => nomatch h⟩
def defs : List He.DefD := tb.map (·.d)
def facts : List He.Fa := tb.map (fun n => .glo n.d.at_.1) ++ frees.map .free
def ex (K : PySem.W.Frag) : Bool := glos.all (gloB K)
abbrev lawAt : Nat := 27
def loose0 : List Str := ["QueueError", "BadNumber", "BadRate", "is_integer", "is_within", "MOST_PARTS", "MOST_BURST", "TRIPLE", "is_share", "check_rate", "MOST_WAY", "check_most", "keeper_bound", "_law_pot", "_law_take", "_law_of", "_law_cells", "_law_bound", "_law_younger_number", "_law_is_elder_number", "_law_drawn_rate", "_law_right"]
abbrev loose : List Str := loose0
abbrev row : PySem.W.OpenRow := PySem.W.OpenLaw.row PySem.Challenge.rw_roadqueues_k23_numbers_of_keepers
abbrev hk : PySem.W.Hook := He.hookX 6 facts defs [] [] ex
def ob (s : PySem.W.SharedT) : He.AlX := He.obsX 6 facts defs [] [] ex (HandSHeadRun.getT s)
theorem ob_is (s : PySem.W.SharedT) : ob s = hk.obs s.abs := He.obsX_eq (HandSHeadRun.getT_eq s)
theorem goes (w : World) : HandSHeadRun.RunEq row (PySem.W.view row.prog [lawAt]) hk ob 4000 loose w := by
  intro os
  kernel_rfl
theorem known (w : World) (h : Heap) (y : hk.says w h) : ∃ K : PySem.W.Frag, K.In h ∧ (∀ n ∈ tb, ∃ fa fd, FunD K n.d.name n.d.qual n.d.params n.d.body n.d.scope (n.d.dvs K) (n.d.kws K) fa fd ∧ ∀ mg : Str → Option Value, h.Ns mainGlobals mg → mg n.d.at_.1 = some (.ref fa)) ∧
    (∀ mg : Str → Option Value, h.Ns mainGlobals mg → ∀ x ∈ frees, mg x = none) ∧ ∀ p ∈ glos, gloB K p = true := by
  obtain ⟨K, inK, c⟩ := y
  have cd := c.t.d
  refine ⟨K, inK, fun n hn => ?_, fun mg G x hx => ?_, fun p hp => List.all_eq_true.mp (show glos.all (gloB K) = true from c.more) p hp⟩
  · obtain ⟨fd, F⟩ := cd.defs (d := n.d) (List.mem_map_of_mem hn)
    refine ⟨_, fd, F, fun mg G => ?_⟩
    have z := He.glo_ok inK G (cd.facts (f := .glo n.d.at_.1) (List.mem_append_left _ (List.mem_map_of_mem (f := fun n : FN => He.Fa.glo n.d.at_.1) hn)))
    rw [z]
    have e := (oks n hn).at_
    unfold He.fAd
    rw [e]
  · exact He.free_ok inK G (cd.facts (f := .free x) (List.mem_append_right _ (List.mem_map_of_mem (f := He.Fa.free) hx)))
end K23

namespace K23
open PySem Mi
noncomputable abbrev O (k : Nat) : Orc := callN T.fdef keep k
theorem c_is_integer {k : Nat} {s : Sto} (v : Int) : O (k + 1) f_is_integer [.int v] s = .ok (.bl true) s := by
  refine (call_eq (fd := d_is_integer) rfl rfl rfl).trans ?_
  have : runF (O k) d_is_integer [.int v] s = .ok (.bl true) s := by
    simp [runF, d_is_integer, b_is_integer, evSs, evS, ev, evAnd, evv, isTy]
  rw [this]
  exact sweep_same rfl
theorem c_is_within {k : Nat} {s : Sto} (v a b : Int) : O (k + 2) f_is_within [.int v, .int a, .int b] s = .ok (.bl (decide (a ≤ v) && decide (v ≤ b))) s := by
  refine (call_eq (fd := d_is_within) rfl rfl rfl).trans ?_
  have : runF (O (k + 1)) d_is_within [.int v, .int a, .int b] s = .ok (.bl (decide (a ≤ v) && decide (v ≤ b))) s := by
    by_cases h : a ≤ v <;> simp [runF, d_is_within, b_is_within, evSs, evS, ev, evs, evAnd, evv, c_is_integer, h]
  rw [this]
  exact sweep_same rfl
theorem c_is_share {k : Nat} {s : Sto} {p q : Int} (h1 : 1 ≤ q ∧ q ≤ 100) (h2 : 1 ≤ p ∧ p ≤ q - 1) : O (k + 3) f_is_share [.int p, .int q] s = .ok (.bl true) s := by
  refine (call_eq (fd := d_is_share) rfl rfl rfl).trans ?_
  have : runF (O (k + 2)) d_is_share [.int p, .int q] s = .ok (.bl true) s := by
    simp [runF, d_is_share, b_is_share, evSs, evS, ev, evs, evAnd, evv, c_is_within, h1, h2, g_MOST_PARTS]
  rw [this]
  exact sweep_same rfl
theorem c_check_rate {k : Nat} {s : Sto} {p q b : Int} (h1 : 1 ≤ q ∧ q ≤ 100) (h2 : 1 ≤ p ∧ p ≤ q - 1) (h3 : 1 ≤ b ∧ b ≤ 50) : O (k + 4) f_check_rate [.tup [.int p, .int q, .int b]] s = .ok .non s := by
  refine (call_eq (fd := d_check_rate) rfl rfl rfl).trans ?_
  have : runF (O (k + 3)) d_check_rate [.tup [.int p, .int q, .int b]] s = .ok .non s := by
    simp [runF, d_check_rate, b_check_rate, evSs, evS, ev, evs, evAnd, evOr, evv, tst, isTy, c_is_share h1 h2, c_is_within, h3, g_MOST_BURST, g_TRIPLE]
  rw [this]
  exact sweep_same rfl
theorem c_check_most {k : Nat} {s : Sto} {m : Int} (h : 1 ≤ m ∧ m ≤ 12) : O (k + 3) f_check_most [.int m] s = .ok .non s := by
  refine (call_eq (fd := d_check_most) rfl rfl rfl).trans ?_
  have : runF (O (k + 2)) d_check_most [.int m] s = .ok .non s := by
    simp [runF, d_check_most, b_check_most, evSs, evS, ev, evs, evAnd, evOr, evv, tst, c_is_within, h, g_MOST_WAY]
  rw [this]
  exact sweep_same rfl
/-! ### the numbers -/
def stp (p q b x : Int) : Int := (x + b - 1) * q / (q - p) + 1
def nb (p q b : Int) : Nat → Int
  | 0 => 0
  | j + 1 => stp p q b (nb p q b j)
section
variable {p q b : Int} (h1 : 2 ≤ q ∧ q ≤ 100) (h2 : 1 ≤ p ∧ p ≤ q - 1) (h3 : 1 ≤ b ∧ b ≤ 50)
include h1 h2 h3
theorem stp_nn {x : Int} (hx : 0 ≤ x) : 1 ≤ stp p q b x := by
  unfold stp
  have : 0 ≤ (x + b - 1) * q / (q - p) := Int.ediv_nonneg (Int.mul_nonneg (by omega) (by omega)) (by omega)
  omega
theorem stp_le {x : Int} (hx : 0 ≤ x) : stp p q b x + 1 ≤ 16384 * (x + 1) := by
  unfold stp
  have a : (x + b - 1) * q / (q - p) ≤ (x + b - 1) * q := Int.ediv_le_self _ (Int.mul_nonneg (by omega) (by omega))
  have c : (x + b - 1) * q ≤ (x + 49) * 100 := Int.mul_le_mul (by omega) (by omega) (by omega) (by omega)
  omega
theorem nb_ok (j : Nat) : 0 ≤ nb p q b j ∧ nb p q b j + 1 ≤ 2 ^ (14 * j) := by
  induction j with
  | zero => exact ⟨Int.le_refl 0, Int.le_refl 1⟩
  | succ j ih =>
    obtain ⟨i1, i2⟩ := ih
    have a := stp_nn h1 h2 h3 i1
    have c := stp_le h1 h2 h3 i1
    refine ⟨by show 0 ≤ stp p q b _; omega, ?_⟩
    show stp p q b _ + 1 ≤ _
    have e : (2 : Int) ^ (14 * (j + 1)) = 2 ^ (14 * j) * 16384 := by
      rw [Nat.mul_add, Int.pow_add]
      rfl
    rw [e]
    omega
theorem nb_lg {j : Nat} (hj : j ≤ 12) : Lg 170 (nb p q b j) := by
  obtain ⟨i1, i2⟩ := nb_ok h1 h2 h3 j
  have a : (2 : Int) ^ (14 * j) ≤ 2 ^ 170 := by
    have := Nat.pow_le_pow_right (n := 2) (by decide) (show 14 * j ≤ 170 by omega)
    exact_mod_cast this
  unfold Lg
  have c : ((nb p q b j).natAbs : Int) < 2 ^ 170 := by omega
  exact_mod_cast c
end

section
variable {p q b : Int} (h1 : 2 ≤ q ∧ q ≤ 100) (h2 : 1 ≤ p ∧ p ≤ q - 1) (h3 : 1 ≤ b ∧ b ≤ 50)
include h1 h2 h3
theorem laps {o : Orc} {r m : Option D} {s : Sto} : ∀ (xs : List D) (j : Nat) (l : Option D), j + xs.length ≤ 12 → ∃ l', turns (turnF (.nm 6) fun env s => evSs o l1__law_bound env s) xs [r, m, some (.int p), some (.int q), some (.int b), some (.int (nb p q b j)), l] s =
    .ok .nxt [r, m, some (.int p), some (.int q), some (.int b), some (.int (nb p q b (j + xs.length))), l'] s
  | [], j, l, _ => ⟨l, rfl⟩
  | x :: xs, j, l, hj => by
    obtain ⟨l', ih⟩ := laps (o := o) (r := r) (m := m) (s := s) xs (j + 1) (some x) (by simp only [List.length_cons] at hj; omega)
    have g := nb_lg h1 h2 h3 (j := j) (by simp only [List.length_cons] at hj; omega)
    have lb : Lg 170 b := (lg62 (by omega)).up (by decide)
    have l1 : Lg 171 1 := (lg62 (by decide)).up (by decide)
    have m1 := bin_mul (big_of ((g.add lb).sub l1) (lg62 (i := q) (by omega)) (by decide) (by decide) (by decide))
    have d1 := bin_fdv (i := (nb p q b j + b - 1) * q) (fdv_of (j := q - p) (by omega) (by omega))
    refine ⟨l', ?_⟩
    have e : nb p q b (j + 1) = (nb p q b j + b - 1) * q / (q - p) + 1 := rfl
    rw [e] at ih
    rw [List.length_cons, show j + (xs.length + 1) = j + 1 + xs.length by omega, ← ih]
    simp [turns, turnF, l1__law_bound, evSs, evS, ev, evv, m1, d1]
theorem c_law_bound {k : Nat} {s : Sto} {m : Int} (hm : 1 ≤ m ∧ m ≤ 12) : O (k + 1) f__law_bound [.tup [.int p, .int q, .int b], .int m] s = .ok (.int (nb p q b m.toNat)) s := by
  refine (call_eq (fd := d__law_bound) rfl rfl rfl).trans ?_
  have : runF (O k) d__law_bound [.tup [.int p, .int q, .int b], .int m] s = .ok (.int (nb p q b m.toNat)) s := by
    obtain ⟨l', e⟩ := laps h1 h2 h3 (o := O k) (r := some (.tup [.int p, .int q, .int b])) (m := some (.int m)) (s := s) (irange m.toNat) 0 none (by simp; omega)
    have ei := ei_rng1 (o := O k) (e := .var 1) (env := [some (.tup [.int p, .int q, .int b]), some (.int m), some (.int p), some (.int q), some (.int b), some (.int 0), none]) (s := s) (s' := s) (n := m) (by simp [ev]) (by omega)
    rw [irange_len, Nat.zero_add] at e
    simp [runF, d__law_bound, b__law_bound, evSs, evS, ev, evv, ei]
    rw [show (0 : Int) = nb p q b 0 from rfl, e]
    simp
  rw [this]
  exact sweep_same rfl
theorem c_keeper {k : Nat} {s : Sto} {m : Int} (hm : 1 ≤ m ∧ m ≤ 12) : O (k + 5) f_keeper_bound [.tup [.int p, .int q, .int b], .int m] s = .ok (.int (nb p q b m.toNat)) s := by
  refine (call_eq (fd := d_keeper_bound) rfl rfl rfl).trans ?_
  have : runF (O (k + 4)) d_keeper_bound [.tup [.int p, .int q, .int b], .int m] s = .ok (.int (nb p q b m.toNat)) s := by
    obtain ⟨l', e⟩ := laps h1 h2 h3 (o := O (k + 4)) (r := some (.tup [.int p, .int q, .int b])) (m := some (.int m)) (s := s) (irange m.toNat) 0 none (by simp; omega)
    have ei := ei_rng1 (o := O (k + 4)) (e := .var 1) (env := [some (.tup [.int p, .int q, .int b]), some (.int m), some (.int p), some (.int q), some (.int b), some (.int 0), none]) (s := s) (s' := s) (n := m) (by simp [ev]) (by omega)
    rw [irange_len, Nat.zero_add] at e
    simp [runF, d_keeper_bound, b_keeper_bound, evSs, evS, ev, evs, evv, ei, c_check_rate (k := k) (s := s) (p := p) (q := q) (b := b) (by omega) h2 h3, c_check_most (k := k + 1) (s := s) hm]
    rw [show l1_keeper_bound = l1__law_bound from rfl, show (0 : Int) = nb p q b 0 from rfl, e]
    simp
  rw [this]
  exact sweep_same rfl

theorem fix_iff {x t : Int} : t * p / q < t - x - b + 1 ↔ stp p q b x ≤ t := by
  have a := Int.ediv_lt_iff_lt_mul (a := t * p) (b := t - x - b + 1) (c := q) (by omega)
  have c := Int.ediv_lt_iff_lt_mul (a := (x + b - 1) * q) (b := t) (c := q - p) (by omega)
  have e1 : (t - x - b + 1) * q = t * q - (x + b - 1) * q := by
    rw [show t - x - b + 1 = t - (x + b - 1) by omega, Int.sub_mul]
  have e2 : t * (q - p) = t * q - t * p := Int.mul_sub ..
  unfold stp
  rw [a, e1]
  constructor
  · intro h
    have := c.mpr (by omega)
    omega
  · intro h
    have := c.mp (by omega)
    omega
theorem young {o : Orc} {r m l : Option D} {s : Sto} {x : Int} (hx : 0 ≤ x) (hl : Lg 200 (stp p q b x)) : ∀ (n : Nat) (w : Int) (lg : Option D), 0 ≤ w → w ≤ stp p q b x - x - 1 → (stp p q b x - x - 1 - w).toNat ≤ n →
    ∃ lg', whl (fun env s => tst o (.con (.bl true)) env s) (fun env s => evSs o l1__law_younger_number env s) [r, m, some (.int p), some (.int q), some (.int b), some (.int x), l, some (.int w), lg] s =
      .ok .nxt [r, m, some (.int p), some (.int q), some (.int b), some (.int x), l, some (.int (stp p q b x - x - 1)), lg'] s := by
  intro n
  induction n with
  | zero =>
    intro w lg h0 hw hn
    have ew : w = stp p q b x - x - 1 := by omega
    refine ⟨some (.int ((x + w + 1) * p / q + b - 1)), ?_⟩
    have f := (fix_iff h1 h2 h3 (x := x) (t := x + w + 1)).mpr (by omega)
    have lt : Lg 200 (x + w + 1) := by rw [show x + w + 1 = stp p q b x by omega]; exact hl
    have m1 := bin_mul (big_of lt (lg62 (i := p) (by omega)) (by decide) (by decide) (by decide))
    have d1 := bin_fdv (i := (x + w + 1) * p) (fdv_of (j := q) (by omega) (by omega))
    have c : (x + w + 1) * p / q + b - 1 ≤ w := by omega
    rw [whl_eq]
    simp [tst, ev, l1__law_younger_number, evSs, evS, evv, m1, d1, c]
    rw [← ew]
  | succ n ih =>
    intro w lg h0 hw hn
    have f := fix_iff h1 h2 h3 (x := x) (t := x + w + 1)
    have lt : Lg 200 (x + w + 1) := by
      unfold Lg at hl ⊢
      omega
    have m1 := bin_mul (big_of lt (lg62 (i := p) (by omega)) (by decide) (by decide) (by decide))
    have d1 := bin_fdv (i := (x + w + 1) * p) (fdv_of (j := q) (by omega) (by omega))
    by_cases c : (x + w + 1) * p / q + b - 1 ≤ w
    · have := f.mp (by omega)
      have ew : w = stp p q b x - x - 1 := by omega
      refine ⟨some (.int ((x + w + 1) * p / q + b - 1)), ?_⟩
      rw [whl_eq]
      simp [tst, ev, l1__law_younger_number, evSs, evS, evv, m1, d1, c]
      rw [← ew]
    · have g := (fix_iff h1 h2 h3 (x := x) (t := stp p q b x)).mpr (Int.le_refl _)
      have mono : (x + w + 1) * p / q ≤ stp p q b x * p / q := Int.ediv_le_ediv (by omega) (Int.mul_le_mul_of_nonneg_right (by omega) (by omega))
      obtain ⟨lg', e⟩ := ih ((x + w + 1) * p / q + b - 1) (some (.int ((x + w + 1) * p / q + b - 1))) (by omega) (by omega) (by omega)
      refine ⟨lg', ?_⟩
      refine (whl_go (s1 := s) ?_ ?_).trans e
      · simp [tst, ev]
      · simp [tst, ev, l1__law_younger_number, evSs, evS, evv, m1, d1, c]
theorem youngs {o : Orc} {r m : Option D} {s : Sto} : ∀ (xs : List D) (j : Nat) (l w lg : Option D), j + xs.length ≤ 12 → ∃ l' w' lg', turns (turnF (.nm 6) fun env s => evSs o l2__law_younger_number env s) xs [r, m, some (.int p), some (.int q), some (.int b), some (.int (nb p q b j)), l, w, lg] s =
    .ok .nxt [r, m, some (.int p), some (.int q), some (.int b), some (.int (nb p q b (j + xs.length))), l', w', lg'] s
  | [], j, l, w, lg, _ => ⟨l, w, lg, rfl⟩
  | x :: xs, j, l, w, lg, hj => by
    have hn := nb_ok h1 h2 h3 j
    have g := nb_lg h1 h2 h3 (j := j + 1) (by simp only [List.length_cons] at hj; omega)
    have hp := stp_nn h1 h2 h3 hn.1
    have hs : stp p q b (nb p q b j) = nb p q b (j + 1) := rfl
    have hge : nb p q b j + 1 ≤ nb p q b (j + 1) := by
      have f := (fix_iff h1 h2 h3 (x := nb p q b j) (t := stp p q b (nb p q b j))).mpr (Int.le_refl _)
      have n0 : 0 ≤ stp p q b (nb p q b j) * p / q := Int.ediv_nonneg (Int.mul_nonneg (by omega) (by omega)) (by omega)
      rw [hs] at f n0
      omega
    obtain ⟨lg1, e1⟩ := young h1 h2 h3 (o := o) (r := r) (m := m) (l := some x) (s := s) (x := nb p q b j) hn.1 (by rw [hs]; exact g.up (by decide)) _ 0 lg (Int.le_refl _) (by rw [hs]; omega) (Nat.le_refl _)
    rw [hs] at e1
    obtain ⟨l', w', lg', ih⟩ := youngs (o := o) (r := r) (m := m) (s := s) xs (j + 1) (some x) (some (.int (nb p q b (j + 1) - nb p q b j - 1))) lg1 (by simp only [List.length_cons] at hj; omega)
    refine ⟨l', w', lg', ?_⟩
    rw [List.length_cons, show j + (xs.length + 1) = j + 1 + xs.length by omega, ← ih]
    simp [turns, turnF, l2__law_younger_number, evSs, evS, ev, evv, e1]
    congr 1
    simp
    omega
theorem c_young {k : Nat} {s : Sto} {m : Int} (hm : 1 ≤ m ∧ m ≤ 12) : O (k + 1) f__law_younger_number [.tup [.int p, .int q, .int b], .int m] s = .ok (.int (nb p q b m.toNat)) s := by
  refine (call_eq (fd := d__law_younger_number) rfl rfl rfl).trans ?_
  have : runF (O k) d__law_younger_number [.tup [.int p, .int q, .int b], .int m] s = .ok (.int (nb p q b m.toNat)) s := by
    obtain ⟨l', w', lg', e⟩ := youngs h1 h2 h3 (o := O k) (r := some (.tup [.int p, .int q, .int b])) (m := some (.int m)) (s := s) (irange m.toNat) 0 none none none (by simp; omega)
    have ei := ei_rng1 (o := O k) (e := .var 1) (env := [some (.tup [.int p, .int q, .int b]), some (.int m), some (.int p), some (.int q), some (.int b), some (.int 0), none, none, none]) (s := s) (s' := s) (n := m) (by simp [ev]) (by omega)
    rw [irange_len, Nat.zero_add] at e
    simp [runF, d__law_younger_number, b__law_younger_number, evSs, evS, ev, evv, ei]
    rw [show (0 : Int) = nb p q b 0 from rfl, e]
    simp
  rw [this]
  exact sweep_same rfl
/-! ### elder letters -/
theorem elders {o : Orc} {r m : Option D} {s : Sto} {N : Int} : ∀ (xs : List D) (i K : Nat) (e : Int) (l : Option D), Lg K (N - e) → 100 ≤ K → K + 10 * xs.length ≤ 5000 → ∃ e' l', turns (turnF (.nm 7) fun env s => evSs o l1__law_is_elder_number env s) xs [r, m, some (.int N), some (.int p), some (.int q), some (.int b), some (.int e), l] s =
    .ok .nxt [r, m, some (.int N), some (.int p), some (.int q), some (.int b), some (.int e'), l'] s ∧ (nb p q b i ≤ N - e' ↔ nb p q b (i + xs.length) ≤ N - e)
  | [], i, K, e, l, _, _, _ => ⟨e, l, rfl, Iff.rfl⟩
  | x :: xs, i, K, e, l, hl, hK, hs => by
    have m1 := bin_mul (big_of hl (lg62 (i := p) (by omega)) (by omega) (by decide) (by simp only [List.length_cons] at hs; omega))
    have d1 := bin_fdv (i := (N - e) * p) (fdv_of (j := q) (by omega) (by omega))
    have lp : Lg 7 p := by unfold Lg; have : (2 : Nat) ^ 7 = 128 := by decide
                           omega
    have l1 : Lg (K + 7) ((N - e) * p / q) := by
      have a := hl.mul lp
      unfold Lg at a ⊢
      exact Nat.lt_of_le_of_lt (Int.natAbs_ediv_le_natAbs _ _) a
    have lb : Lg (K + 7) b := (show Lg 7 b by unfold Lg; have : (2 : Nat) ^ 7 = 128 := by decide
                                              omega).up (by omega)
    have l2 : Lg (K + 10) (N - (e + (N - e) * p / q + b)) := by
      have z := (((hl.up (m := K + 7) (by omega)).sub l1).sub (lb.up (m := K + 8) (by omega))).up (m := K + 10) (by omega)
      rw [show N - (e + (N - e) * p / q + b) = N - e - (N - e) * p / q - b by omega]
      exact z
    obtain ⟨e', l', g1, g2⟩ := elders (o := o) (r := r) (m := m) (s := s) (N := N) xs i (K + 10) (e + (N - e) * p / q + b) (some x) l2 (by omega) (by simp only [List.length_cons] at hs; omega)
    refine ⟨e', l', ?_, g2.trans ?_⟩
    · rw [← g1]
      simp [turns, turnF, l1__law_is_elder_number, evSs, evS, ev, evv, m1, d1]
    · have f := fix_iff h1 h2 h3 (x := nb p q b (i + xs.length)) (t := N - e)
      rw [List.length_cons, show i + (xs.length + 1) = i + xs.length + 1 by omega]
      show _ ↔ stp p q b (nb p q b (i + xs.length)) ≤ N - e
      rw [← f]
      omega
theorem c_elder {k : Nat} {s : Sto} {m N : Int} (hm : 1 ≤ m ∧ m ≤ 12) (hN : Lg 200 N) : O (k + 1) f__law_is_elder_number [.tup [.int p, .int q, .int b], .int m, .int N] s = .ok (.bl (decide (nb p q b m.toNat ≤ N))) s := by
  refine (call_eq (fd := d__law_is_elder_number) rfl rfl rfl).trans ?_
  have : runF (O k) d__law_is_elder_number [.tup [.int p, .int q, .int b], .int m, .int N] s = .ok (.bl (decide (nb p q b m.toNat ≤ N))) s := by
    obtain ⟨e', l', e, g⟩ := elders h1 h2 h3 (o := O k) (r := some (.tup [.int p, .int q, .int b])) (m := some (.int m)) (s := s) (N := N) (irange m.toNat) 0 200 0 none (by simpa using hN) (by decide) (by simp; omega)
    have ei := ei_rng1 (o := O k) (e := .var 1) (env := [some (.tup [.int p, .int q, .int b]), some (.int m), some (.int N), some (.int p), some (.int q), some (.int b), some (.int 0), none]) (s := s) (s' := s) (n := m) (by simp [ev]) (by omega)
    rw [irange_len, Nat.zero_add] at g
    simp [runF, d__law_is_elder_number, b__law_is_elder_number, evSs, evS, ev, evv, ei, e]
    have g0 : nb p q b 0 = 0 := rfl
    rw [g0] at g
    constructor <;> intro z
    · have := g.mp (by omega); omega
    · have := g.mpr (by omega); omega
  rw [this]
  exact sweep_same rfl
end
end K23

namespace K23
open PySem Mi
theorem c_drawn {k : Nat} {s : Sto} {n : Nat} {m : Int} (P : Pot s n m) (hm : m < 1000000000) : ∃ (p q b : Int) (c : Cell), O (k + 3) f__law_drawn_rate [.loc n] s = .ok (.tup [.int p, .int q, .int b]) (s.set n c) ∧ (2 ≤ q ∧ q ≤ 100) ∧ (1 ≤ p ∧ p ≤ q - 1) ∧ (1 ≤ b ∧ b ≤ 50) ∧ Pot (s.set n c) n (m + 5) ∧ c.und s.length = true := by
  have hn := P.lt
  obtain ⟨r1, c1, e1, a1, b1', P1, u1⟩ := take_ok draws (k := k + 1) (u := 99) P (by omega) (by decide) (by decide)
  obtain ⟨r2, c2, e2, a2, b2', P2, u2⟩ := take_at draws (k := k + 1) (t := []) (u := 2 + r1 - 1) hn (by simpa using P1) (by omega) (by omega) (by omega)
  simp only [List.append_nil] at e2 P2
  have fd := bin_fdv (i := 2 + r1) (j := 2) (fdv_of (by decide) (by decide))
  obtain ⟨p, c3, e3, i3, P3, u3⟩ := of_ints draws (k := k) (t := []) [1, 2 + r1 - 1, 1 + r2, (2 + r1) / 2] hn (by simpa using P2) (by omega) rfl (by simp) (by simp)
  simp only [List.nil_append, List.map_cons, List.map_nil, List.length_nil, Nat.add_zero] at e3 P3
  obtain ⟨r4, c4, e4, a4, b4, P4, u4⟩ := take_at draws (k := k + 1) (u := 50) hn P3 (by omega) (by decide) (by decide)
  obtain ⟨b, c5, e5, i5, P5, u5⟩ := of_ints draws (k := k) [0, 0, 1, 2, r4] hn P4 (by omega) rfl (by simp) (by simp)
  simp only [List.cons_append, List.nil_append, List.map_cons, List.map_nil, List.length_cons, List.length_nil, Nat.zero_add] at e5 P5
  have hp : 1 ≤ p ∧ p ≤ 2 + r1 - 1 := by
    simp at i3
    omega
  have hb : 0 ≤ b ∧ b < 50 := by
    simp at i5
    omega
  refine ⟨p, 2 + r1, 1 + b, c5, ?_, by omega, by omega, by omega, (P5.cut (by simpa using hn)).le (by omega), u5⟩
  refine (call_eq (fd := d__law_drawn_rate) rfl rfl rfl).trans ?_
  have : runF (O (k + 2)) d__law_drawn_rate [.loc n] s = .ok (.tup [.int p, .int (2 + r1), .int (1 + b)]) (s.set n c5 ++ [.lst [.int 1, .int (2 + r1 - 1), .int (1 + r2), .int ((2 + r1) / 2)], .lst [.int 0, .int 0, .int 1, .int 2, .int r4]]) := by
    simp [runF, d__law_drawn_rate, b__law_drawn_rate, evSs, evS, ev, evs, evv, e1, e2, fd, sizeMax, e3, e4, e5]
  rw [this]
  exact sweep_set u5 rfl

/-- one lap -/
theorem lap {k : Nat} {s t : Sto} {n : Nat} {c0 : Cell} {m : Int} {x a0 b0 d0 : Option Mi.D} (hn : n < s.length) (P : Pot (s.set n c0 ++ t) n m) (hm : m < 100000000) :
    ∃ (a b d : Option Mi.D) (c : Cell) (t' : Sto), evSs (O (k + 5)) l1__law_right [some (.loc n), x, a0, b0, d0] (s.set n c0 ++ t) = .ok .nxt [some (.loc n), x, a, b, d] (s.set n c ++ t') ∧ Pot (s.set n c ++ t') n (m + 10) ∧ c.und s.length = true := by
  obtain ⟨p, q, b, c1, e1, h1, h2, h3, P1, u1⟩ := c_drawn (k := k + 2) P (by omega)
  rw [set_app hn] at e1 P1
  obtain ⟨r2, c2, e2, a2, b2, P2, u2⟩ := take_at draws (k := k + 4) (u := 12) hn P1 (by omega) (by decide) (by decide)
  obtain ⟨v, c3, e3, i3, P3, u3⟩ := of_ints draws (k := k + 3) [0, 1, 2, 3, 4, r2] hn P2 (by omega) rfl (by simp) (by simp)
  simp only [List.map_cons, List.map_nil] at e3 P3
  have hv : 0 ≤ v ∧ v ≤ 11 := by
    simp at i3
    omega
  have hm1 : 1 ≤ 1 + v ∧ 1 + v ≤ 12 := by omega
  have hmn : 1 ≤ (if (4 : Int) < 1 + v then 4 else 1 + v) ∧ (if (4 : Int) < 1 + v then 4 else 1 + v) ≤ 12 := by split <;> omega
  generalize hS : s.set n c3 ++ (t ++ [Cell.lst [.int 0, .int 1, .int 2, .int 3, .int 4, .int r2]]) = S at *
  have f1 := c_law_bound h1 h2 h3 (k := k + 4) (s := S) hm1
  have f2 := c_keeper h1 h2 h3 (k := k) (s := S) hm1
  have f3 := c_law_bound h1 h2 h3 (k := k + 4) (s := S) hmn
  have f4 := c_young h1 h2 h3 (k := k + 4) (s := S) hmn
  have g := nb_lg h1 h2 h3 (j := (1 + v).toNat) (by omega)
  have f5 := c_elder h1 h2 h3 (k := k + 4) (s := S) (N := nb p q b (1 + v).toNat) hm1 (g.up (by decide))
  have f6 := c_elder h1 h2 h3 (k := k + 4) (s := S) (N := nb p q b (1 + v).toNat - 1) hm1 ((g.sub ((lg62 (i := 1) (by decide)).up (m := 170) (by decide))).up (by decide))
  have f7 := repr_int g (by decide) (by decide) S
  have m1 := bin_mul (big62 (i := p) (j := 10) (by omega) (by omega))
  have m2 := bin_mul (big62 (i := q) (j := 7) (by omega) (by omega))
  have f6' : ¬ nb p q b (1 + v).toNat ≤ nb p q b (1 + v).toNat - 1 := by omega
  refine ⟨some (.tup [.int p, .int q, .int b]), some (.int (1 + v)), some (.int (nb p q b (1 + v).toNat)), c3, t ++ [Cell.lst [.int 0, .int 1, .int 2, .int 3, .int 4, .int r2]], ?_, by rw [hS]; exact P3.le (by omega), u3⟩
  rw [hS]
  by_cases hc : p * 10 ≤ q * 7
  · simp [l1__law_right, evSs, evS, ev, evs, evAnd, evOr, evv, tst, e1, e2, sizeMax, Nat.add_comm, e3, hS, f1, permOf, f2, f7, m1, m2, hc, f3, f4, f5, f6, f6']
  · simp [l1__law_right, evSs, evS, ev, evs, evAnd, evOr, evv, tst, e1, e2, sizeMax, Nat.add_comm, e3, hS, f1, permOf, f2, f7, m1, m2, hc, f3, f4, f5, f6, f6']

theorem laps6 {k : Nat} {s : Sto} {n : Nat} (hn : n < s.length) : ∀ (xs : List Mi.D) (t : Sto) (c0 : Cell) (m : Int) (x a0 b0 d0 : Option Mi.D), Pot (s.set n c0 ++ t) n m → m + 10 * xs.length < 100000000 → c0.und s.length = true →
    ∃ (y a b d : Option Mi.D) (c : Cell) (t' : Sto), turns (turnF (.nm 1) fun env s => evSs (O (k + 5)) l1__law_right env s) xs [some (.loc n), x, a0, b0, d0] (s.set n c0 ++ t) = .ok .nxt [some (.loc n), y, a, b, d] (s.set n c ++ t') ∧ c.und s.length = true
  | [], t, c0, m, x, a0, b0, d0, P, hm, u => ⟨x, a0, b0, d0, c0, t, rfl, u⟩
  | y :: xs, t, c0, m, x, a0, b0, d0, P, hm, u => by
    simp only [List.length_cons] at hm
    obtain ⟨a, b, d, c, t', e, P', u'⟩ := lap (k := k) (x := some y) (a0 := a0) (b0 := b0) (d0 := d0) hn P (by omega)
    obtain ⟨y2, a2, b2, d2, c2, t2, e2, u2⟩ := laps6 (k := k) hn xs t' c (m + 10) (some y) a b d P' (by omega) u'
    refine ⟨y2, a2, b2, d2, c2, t2, ?_, u2⟩
    rw [← e2]
    simp [turns, turnF, e]
theorem c_right {k : Nat} {s : Sto} {n : Nat} (P : Pot s n 0) : ∃ c, O (k + 6) f__law_right [.loc n] s = .ok (.bl true) (s.set n c) := by
  have hn := P.lt
  obtain ⟨a, b, d, hs, h⟩ := P
  have e0 : s.set n (.lst [.int a, .int b, .int d]) = s := by
    apply List.ext_getElem?
    intro i
    by_cases e : n = i
    · subst e
      rw [List.getElem?_set_self hn, hs]
    · rw [List.getElem?_set_ne e]
  obtain ⟨y, a1, b1, d1, c, t', e, u⟩ := laps6 (k := k) hn (irange 6) [] (.lst [.int a, .int b, .int d]) 0 none none none none (by rw [List.append_nil, e0]; exact ⟨a, b, d, hs, h⟩) (by simp) rfl
  rw [List.append_nil, e0] at e
  refine ⟨c, (call_eq (fd := d__law_right) rfl rfl rfl).trans ?_⟩
  have ei := ei_rng1 (o := O (k + 5)) (e := .con (.int 6)) (env := [some (.loc n), none, none, none, none]) (s := s) (s' := s) (n := 6) (by simp [ev]) (by omega)
  have : runF (O (k + 5)) d__law_right [.loc n] s = .ok (.bl true) (s.set n c ++ t') := by
    simp [runF, d__law_right, b__law_right, evSs, evS, ev, evs, evv, ei]
    rw [e]
  rw [this]
  exact sweep_set u rfl
def lvl : Nat := 8
theorem answers : ∀ ns : List Int, ns.length ≤ 63 → (∀ z ∈ ns, Builtin.Int.intBits z ≤ 1048576) → ∃ s, callN T.fdef keep lvl f_law (scr ns) [] = .ok (.bl true) s := fun ns hn hb =>
  law_all draws (k := 6) (fr := f__law_right) rfl rfl (by decide) hb fun s n P => c_right (k := 1) P
end K23

open PySem PySem.W PySem.Calls PyProof.Rows
theorem PySem.Challenge.cw_roadqueues_k23_numbers_of_keepers_holds : PySem.Challenge.rw_roadqueues_k23_numbers_of_keepers.Holds := by
  w_on; o_law
  refine HandSHeadRun.head_any (q := view K23.row.prog [K23.lawAt]) (H := K23.hk) (ob := K23.ob) (M := 4000) (loose := K23.loose) (d := HandSHeadRun.topDef K23.row.prog K23.lawAt) (kwd := []) K23.ob_is
    (by kernel_rfl) (fun s => by kernel_rfl) K23.goes (by kernel_rfl) (by kernel_rfl) (by kernel_rfl) (by rfl) (by first | assumption | decide +kernel) (by decide +kernel) ⟨rfl, rfl, rfl, rfl, rfl, by decide +kernel⟩ ?_ ?_
  · w_witness2
  · exact Mi.law_end (l := PySem.Challenge.rw_roadqueues_k23_numbers_of_keepers) (n := 63) (k := K23.lvl) (f := K23.f_law) (nf := K23.n_law) (xc := fun _ _ => .none) rfl (by decide) (by kernel_rfl) ⟨rfl, by decide, by decide⟩ rfl (by kernel_rfl) K23.oks K23.known K23.answers
