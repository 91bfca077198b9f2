import PyProof.Rows.All
import Wide.All
import OpenK.AllK
import Wide.FinOn
import HandS.ForMost
import HandS.Deep
import HandS.IsInst
import HandS.Flow
import HandS.Style
import HandS.TupAny
import HandS.TupMul
import HandS.SortInts
import HandS.Conv
import HandS.Zip
import PyProof.Rows.IntBool
import HandS.SetFor
import HandS.Ends
import PyProof.Rows.StrCase
import PySem.Challenge.RW_sealshelf_k01_kinds_told
set_option Elab.async false
set_option linter.all false
set_option maxRecDepth 100000
set_option maxHeartbeats 0
/-! PfA: the pure side. Data, the monad of draws, the small language, its evaluator. -/
namespace Pf
open PySem

abbrev D := PyData

/-- a computation: a value, stuck, or a free choice below n -/
inductive M (α : Type) where
  | ret (a : α) : M α
  | bad : M α
  | draw (n : Nat) (k : Nat → M α) : M α
  | any (k : Int → M α) : M α
namespace M
def bind {α β : Type} : M α → (α → M β) → M β
  | .ret a, f => f a
  | .bad, _ => .bad
  | .draw n k, f => .draw n fun r => (k r).bind f
  | .any k, f => .any fun r => (k r).bind f
instance : Monad M where
  pure := M.ret
  bind := M.bind
end M
/-- every end is a value with Q -/
def WP {α : Type} : M α → (α → Prop) → Prop
  | .ret a, Q => Q a
  | .bad, _ => False
  | .draw n k, Q => 0 < n ∧ ∀ r, r < n → WP (k r) Q
  | .any k, Q => ∀ r, WP (k r) Q

theorem WP.mono {α : Type} {Q R : α → Prop} : ∀ {m : M α}, WP m Q → (∀ a, Q a → R a) → WP m R
  | .ret _, h, f => f _ h
  | .bad, h, _ => h
  | .draw _ k, h, f => ⟨h.1, fun r hr => WP.mono (m := k r) (h.2 r hr) f⟩
  | .any k, h, f => fun r => WP.mono (m := k r) (h r) f
theorem WP.bind {α β : Type} {Q : β → Prop} {f : α → M β} : ∀ {m : M α}, WP (m.bind f) Q ↔ WP m (fun a => WP (f a) Q)
  | .ret _ => Iff.rfl
  | .bad => Iff.rfl
  | .draw n k => by
    show (0 < n ∧ ∀ r, r < n → WP ((k r).bind f) Q) ↔ (0 < n ∧ ∀ r, r < n → WP (k r) fun a => WP (f a) Q)
    exact and_congr_right fun _ => forall_congr' fun r => imp_congr_right fun _ => WP.bind
  | .any k => by
    show (∀ r, WP ((k r).bind f) Q) ↔ (∀ r, WP (k r) fun a => WP (f a) Q)
    exact forall_congr' fun r => WP.bind
theorem wp_bind {α β : Type} {Q : β → Prop} {f : α → M β} {m : M α} : WP (m >>= f) Q ↔ WP m (fun a => WP (f a) Q) := WP.bind
@[simp] theorem ret_bind {α β : Type} (a : α) (f : α → M β) : (M.ret a >>= f) = f a := rfl
@[simp] theorem bad_bind {α β : Type} (f : α → M β) : ((M.bad : M α) >>= f) = M.bad := rfl
@[simp] theorem draw_bind {α β : Type} (n : Nat) (k : Nat → M α) (f : α → M β) : (M.draw n k >>= f) = M.draw n fun r => k r >>= f := rfl
@[simp] theorem pure_is {α : Type} (a : α) : (pure a : M α) = M.ret a := rfl
@[simp] theorem wp_ret {α : Type} (a : α) (Q : α → Prop) : WP (.ret a) Q = Q a := rfl
@[simp] theorem wp_bad {α : Type} (Q : α → Prop) : WP (.bad) Q = False := rfl
theorem wp_draw {α : Type} {n : Nat} {k : Nat → M α} {Q : α → Prop} (h : 0 < n) (f : ∀ r, r < n → WP (k r) Q) : WP (.draw n k) Q := ⟨h, f⟩

/-- a condition of the way -/
def need {α : Type} (c : Bool) (m : M α) : M α := if c = true then m else .bad
theorem wp_need {α : Type} {c : Bool} {m : M α} {Q : α → Prop} (h : WP (need c m) Q) : c = true ∧ WP m Q := by
  unfold need at h
  by_cases hc : c = true
  · rw [if_pos hc] at h; exact ⟨hc, h⟩
  · rw [if_neg hc] at h; exact h.elim
@[simp] theorem need_true {α : Type} (m : M α) : need true m = m := rfl
theorem need_of {α : Type} {c : Bool} {m : M α} (h : c = true) : need c m = m := by unfold need; rw [if_pos h]

/-- the feed's token; a def as a value -/
def feedD (ns : List Int) : D := .dict [(.none, .list (ns.map .int))]
def fnD (k : Nat) : D := .dict [(.none, .int k)]

/-- what a slot holds: data; a list of the def's own; a list that may be one of those -/
inductive SV where
  | dat (d : D)
  | own (d : D)
  | bor (d : D)
def SV.d : SV → D
  | .dat d => d
  | .own d => d
  | .bor d => d
abbrev Ev := List (Option SV)

def gs (ρ : Ev) (i : Nat) : M D := match ρ[i]? with
  | some (some (.dat d)) => .ret d
  | _ => .bad
def gr (ρ : Ev) (i : Nat) : M D := match ρ[i]? with
  | some (some v) => .ret v.d
  | _ => .bad
def go (ρ : Ev) (i : Nat) : M (List D) := match ρ[i]? with
  | some (some (.own (.list ds))) => .ret ds
  | _ => .bad
def clr1 : Option SV → Option SV
  | some (.bor _) => none
  | x => x
def clr (ρ : Ev) : Ev := ρ.map clr1
/-- a store -/
def put (ρ : Ev) (i : Nat) (v : SV) : Ev := match ρ[i]? with
  | some (some (.own _)) => (clr ρ).set i (some v)
  | _ => ρ.set i (some v)
/-- an own list is changed -/
def chg (ρ : Ev) (i : Nat) (ds : List D) : Ev := (clr ρ).set i (some (.own (.list ds)))
def wip (ρ : Ev) : List Nat → Ev
  | [] => ρ
  | v :: vs => (wip ρ vs).set v none

/-! ### operators over data -/
inductive Op2 where
  | add | sub | mul | mod | fdiv | pow
  deriving DecidableEq
inductive Cm where
  | lt | le | gt | ge | eq | ne | isin | notin
  deriving DecidableEq
inductive Bi where
  | len | lst | tup | srt | all | any | ord | str | int | repr
  deriving DecidableEq
inductive Ty where
  | int | bool | str | tup | lst
  deriving DecidableEq

def lim : Nat := 1000000

def repD (xs : List D) (n : Nat) : List D := (List.replicate n xs).flatten

def op2 : Op2 → D → D → M D
  | .add, .int a, .int b => .ret (.int (a + b))
  | .add, .str a, .str b => need (decide (a.length + b.length ≤ sizeLine)) (.ret (.str (a ++ b)))
  | .add, .bool a, .int b => .ret (.int ((if a = true then 1 else 0) + b))
  | .add, .list a, .list b => need (decide (a.length + b.length ≤ sizeLine)) (.ret (.list (a ++ b)))
  | .add, .tuple a, .tuple b => need (decide (a.length + b.length ≤ sizeLine)) (.ret (.tuple (a ++ b)))
  | .sub, .int a, .int b => .ret (.int (a - b))
  | .sub, .bool a, .int b => .ret (.int ((if a = true then 1 else 0) - b))
  | .sub, .int a, .bool b => .ret (.int (a - if b = true then 1 else 0))
  | .mul, .int a, .int b => need (decide (-(2 ^ 64) < a ∧ a < 2 ^ 64)) (.ret (.int (a * b)))
  | .mul, .list a, .int b => need (decide (-(2 ^ 63) ≤ b ∧ b < 2 ^ 63 ∧ a.length * b.toNat ≤ sizeLine)) (.ret (.list (repD a b.toNat)))
  | .mul, .tuple a, .int b => need (decide (a.length ≠ 0 ∧ 2 ≤ b ∧ b ≤ 1000 ∧ a.length ≤ 1000)) (.ret (.tuple (repD a b.toNat)))
  | .mod, .int a, .int b => need (decide (b ≠ 0)) (.ret (.int (a.fmod b)))
  | .fdiv, .int a, .int b => need (decide (b ≠ 0 ∧ b.natAbs < 1073741824)) (.ret (.int (a.fdiv b)))
  | .pow, .int a, .int b => need (decide (0 ≤ b ∧ b ≤ 1000000 ∧ a.natAbs < 2 ^ 64)) (.ret (.int (a ^ b.toNat)))
  | _, _, _ => .bad

def cmLt (a b : Str) : Bool := decide (a.cps.toList < b.cps.toList)
/-- two data that == is asked of -/
def eqOk : D → D → Bool
  | .str _, .str _ => true
  | a, b => SeqAt.shaped a && SeqAt.shaped b
def cmp2 : Cm → D → D → M D
  | .lt, .int a, .int b => .ret (.bool (decide (a < b)))
  | .le, .int a, .int b => .ret (.bool (decide (a ≤ b)))
  | .gt, .int a, .int b => .ret (.bool (decide (b < a)))
  | .ge, .int a, .int b => .ret (.bool (decide (b ≤ a)))
  | .lt, .str a, .str b => .ret (.bool (decide (a.cps.toList < b.cps.toList)))
  | .ge, .str a, .str b => .ret (.bool (!decide (a.cps.toList < b.cps.toList)))
  | .eq, a, b => need (eqOk a b) (.ret (.bool (PyData.eqv a b)))
  | .ne, a, b => need (eqOk a b) (.ret (.bool (!PyData.eqv a b)))
  | .isin, .str a, .str b => need (decide (a.length = 1)) (.ret (.bool (decide (a.cps.toList.headD 0 ∈ b.cps.toList))))
  | .isin, a, .list b => need (SeqAt.shaped a && SeqAt.shaped (.list b)) (.ret (.bool (b.any fun z => PyData.eqv z a)))
  | .isin, a, .tuple b => need (SeqAt.shaped a && SeqAt.shaped (.tuple b)) (.ret (.bool (b.any fun z => PyData.eqv z a)))
  | .notin, .str a, .str b => need (decide (a.length = 1)) (.ret (.bool (!decide (a.cps.toList.headD 0 ∈ b.cps.toList))))
  | .notin, a, .list b => need (SeqAt.shaped a && SeqAt.shaped (.list b)) (.ret (.bool (!b.any fun z => PyData.eqv z a)))
  | .notin, a, .tuple b => need (SeqAt.shaped a && SeqAt.shaped (.tuple b)) (.ret (.bool (!b.any fun z => PyData.eqv z a)))
  | _, _, _ => .bad

def isTy : Ty → D → Bool
  | .int, .int _ => true
  | .int, .bool _ => true
  | .bool, .bool _ => true
  | .str, .str _ => true
  | .tup, .tuple _ => true
  | .lst, .list _ => true
  | _, _ => false
/-- data that isinstance is asked of -/
def plainD : D → Bool
  | .dict _ => false
  | _ => true

def boolsOf : List D → Option (List Bool)
  | [] => some []
  | .bool b :: r => (boolsOf r).map (b :: ·)
  | _ :: _ => none
def intsOf : List D → Option (List Int)
  | [] => some []
  | .int b :: r => (intsOf r).map (b :: ·)
  | _ :: _ => none
def strsOf : List D → Option (List Str)
  | [] => some []
  | .str b :: r => (strsOf r).map (b :: ·)
  | _ :: _ => none
def insI (x : Int) : List Int → List Int
  | [] => [x]
  | y :: r => if x ≤ y then x :: y :: r else y :: insI x r
def sortI : List Int → List Int
  | [] => []
  | x :: r => insI x (sortI r)

def bi1 : Bi → D → M D
  | .len, .list a => .ret (.int a.length)
  | .len, .tuple a => .ret (.int a.length)
  | .len, .str a => need (decide (a.length ≤ sizeLine)) (.ret (.int a.length))
  | .lst, .list a => .ret (.list a)
  | .lst, .tuple a => .ret (.list a)
  | .tup, .list a => .ret (.tuple a)
  | .tup, .tuple a => .ret (.tuple a)
  | .all, .list a => match boolsOf a with
    | some bs => .ret (.bool (bs.all id))
    | none => .bad
  | .any, .list a => match boolsOf a with
    | some bs => .ret (.bool (bs.any id))
    | none => .bad
  | .srt, .list a => match intsOf a with
    | some ns => .ret (.list ((sortI ns).map .int))
    | none => .bad
  | .ord, .str a => need (decide (a.length = 1)) (.ret (.int (a.cps.toList.headD 0 : Nat)))
  | .str, .int a => need (decide (a.natAbs.log2 < 1920)) (.ret (.str (toString a)))
  | .str, .bool a => .ret (.str (if a = true then "True" else "False"))
  | .int, .int a => .ret (.int a)
  | .int, .bool a => .ret (.int (if a then 1 else 0))
  | .repr, a => need (a.showable && SeqAt.shaped a && decide (a.shown.length ≤ sizeLine)) (.ret (.str a.shown))
  | _, _ => .bad

/-- the place of an index -/
abbrev ixAt (n : Nat) (i : Int) : Option Nat := L2.ixN n i
def idx2 : D → D → M D
  | .list a, .int i => match (ixAt a.length i).bind (a[·]?) with
    | some d => .ret d
    | none => .bad
  | .tuple a, .int i => match (ixAt a.length i).bind (a[·]?) with
    | some d => .ret d
    | none => .bad
  | _, _ => .bad
/-- an end of a slice -/
abbrev slE (n : Nat) (dflt : Nat) (x : Option Int) : Nat := HT.sIx n dflt x
def cutD (a : List D) (lo hi : Option Int) : List D := (a.drop (slE a.length 0 lo)).take (slE a.length a.length hi - slE a.length 0 lo)
def optI : Option D → M (Option Int)
  | none => .ret none
  | some (.int i) => .ret (some i)
  | _ => .bad
def sl2 : D → Option Int → Option Int → M D
  | .list a, lo, hi => .ret (.list (cutD a lo hi))
  | .tuple a, lo, hi => .ret (.tuple (cutD a lo hi))
  | .str a, lo, hi => need (decide (a.length ≤ sizeLine)) (.ret (.str ⟨((a.cps.toList.drop (slE a.length 0 lo)).take (slE a.length a.length hi - slE a.length 0 lo)).toArray⟩))
  | _, _, _ => .bad
/-- ds[i::n] -/
def stepD (ds : List D) (i : Int) (n : Nat) : List D := (sliceRange (sliceBounds (some i) none (some (n : Int)) ds.length).1 (sliceBounds (some i) none (some (n : Int)) ds.length).2.1 (sliceBounds (some i) none (some (n : Int)) ds.length).2.2).filterMap (ds[·]?)

def truD : D → M Bool
  | .none => .ret false
  | .bool b => .ret b
  | .int i => .ret (i != 0)
  | .str a => need (decide (a.length ≤ sizeLine)) (.ret (a.length != 0))
  | .list a => .ret !a.isEmpty
  | .tuple a => .ret !a.isEmpty
  | _ => .bad

/-! ### the language -/
inductive Sx where
  | var (i : Nat)
  | cst (d : D)
  | glob (x : Str) (d : D)
  | fref (x : Str) (k : Nat)
  | tup (a : Sx)
  | lst (a : Sx)
  | nil
  | cons (e a : Sx)
  | star (e a : Sx)
  | call (k : Nat) (a : Sx)
  | callv (i : Nat) (a : Sx)
  | callk (k : Nat) (perm : List Nat) (a : Sx)
  | bi (b : Bi) (a : Sx)
  | biIf (b : Bi) (k a d : Sx)
  | isi (e : Sx) (t : Ty)
  | upper (e : Sx)
  | bin (o : Op2) (a b : Sx)
  | cmp (o : Cm) (a b : Sx)
  | chain (o o' : Cm) (a b c : Sx)
  | neg (a : Sx)
  | nt (a : Sx)
  | and (a b : Sx)
  | or (a b : Sx)
  | ifx (c a b : Sx)
  | idx (a b : Sx)
  | sl (a lo hi : Sx)
  | rev (a : Sx)
  | step (a lo : Sx) (n : Nat)
  | none_
  | lc (own : List Nat) (tg it cd elt : Sx)
  | rng1 (a : Sx)
  | rng2 (a b : Sx)
  | enum (a : Sx)
  | zip (a b : Sx)
  | lrng (a : Sx)
  | trng (a : Sx)
  | fld (i q : Nat)
  | fcl (i : Nat)
  | fput (i q : Nat) (e : Sx)
  -- statements
  | asg (tg e : Sx)
  | asgO (i : Nat) (e : Sx)
  | par (i : Nat) (oi : Bool) (a : Sx) (j : Nat) (oj : Bool) (b : Sx)
  | bor (i j : Nat) (c e : Sx)
  | app (i : Nat) (e : Sx)
  | ext (i : Nat) (e : Sx)
  | rmv (i : Nat) (e : Sx)
  | popS (i : Nat) (e : Sx)
  | appPop (i j : Nat) (e : Sx)
  | asgPop (tg : Sx) (j : Nat)
  | augI (i : Nat) (e : Sx)
  | iff (c a b : Sx)
  | forS (tg it b : Sx)
  | whil (c b : Sx)
  | ret (e : Sx)
  | retN
  | expr (e : Sx)
  | cont
  | brk
  | pas
  | never
  | frz (i : Nat)
end Pf
/-! PfB: the evaluator. -/
namespace Pf
open PySem

inductive Out where
  | nx (ρ : Ev)
  | ct (ρ : Ev)
  | bk (ρ : Ev)
  | rt (d : D)

def lcGo (b : D → M Ev) (t : Ev → M Bool) (e : Ev → M D) : List D → M (List D)
  | [] => .ret []
  | d :: r => (b d).bind fun ρ => (t ρ).bind fun c => if c = true then (e ρ).bind fun y => (lcGo b t e r).bind fun ys => .ret (y :: ys) else lcGo b t e r
def forGo (b : D → Ev → M Ev) (s : Ev → M Out) : List D → Ev → M Out
  | [], ρ => .ret (.nx ρ)
  | d :: r, ρ => (b d ρ).bind fun ρ1 => (s ρ1).bind fun o => match o with
    | .nx ρ2 => forGo b s r ρ2
    | .ct ρ2 => forGo b s r ρ2
    | .bk ρ2 => .ret (.nx ρ2)
    | .rt d => .ret (.rt d)
def whGo (t : Ev → M Bool) (s : Ev → M Out) : Nat → Ev → M Out
  | 0, _ => .bad
  | n + 1, ρ => (t ρ).bind fun c => if c = true then (s ρ).bind fun o => match o with
    | .nx ρ2 => whGo t s n ρ2
    | .ct ρ2 => whGo t s n ρ2
    | .bk ρ2 => .ret (.nx ρ2)
    | .rt d => .ret (.rt d)
    else .ret (.nx ρ)
/-- the ints from lo on, n of them -/
def intR (lo : Int) (n : Nat) : List D := (List.range n).map fun i => .int (lo + (i : Nat))
def enumGo : Nat → List D → List D
  | _, [] => []
  | i, d :: r => .tuple [.int (i : Nat), d] :: enumGo (i + 1) r
def zipGo : List D → List D → List D
  | d :: r, e :: s => .tuple [d, e] :: zipGo r s
  | _, _ => []
def zipD : D → D → M D
  | .list ds, .list es => need (decide ((zipGo ds es).length ≤ sizeLine)) (.ret (.list (zipGo ds es)))
  | .tuple ds, .tuple es => need (decide ((zipGo ds es).length ≤ sizeLine)) (.ret (.list (zipGo ds es)))
  | _, _ => .bad
def seqD : D → M (List D)
  | .list a => .ret a
  | .tuple a => .ret a
  | _ => .bad
def itmD : D → M (List D)
  | .list a => .ret a
  | .tuple a => .ret a
  | .str a => need (decide (a.cps.toList.length ≤ sizeLine)) (.ret (a.cps.toList.map fun c => .str ⟨#[c]⟩))
  | _ => .bad
def rngOk (i : Int) : Bool := decide (-(2 ^ 62) ≤ i ∧ i < 2 ^ 62)
def intD : D → M Int
  | .int i => .ret i
  | _ => .bad
def boolD : D → M Bool
  | .bool b => .ret b
  | _ => .bad
/-- an own list becomes data -/
def frzD (ρ : Ev) (i : Nat) : M Ev := match ρ[i]? with
  | some (some (.own d)) => .ret ((clr ρ).set i (some (.dat d)))
  | _ => .bad
def rmvD (x : D) : List D → Option (List D)
  | [] => none
  | y :: r => if PyData.eqv y x then some r else (rmvD x r).map (y :: ·)
def popD (ds : List D) (i : Int) : Option (D × List D) := if i.natAbs < 9223372036854775808 then (seqIndex? i ds.length).bind fun k => (ds[k]?).map fun d => (d, ds.eraseIdx k) else none
def permD (vs : List D) (p : List Nat) : M (List D) := match p.mapM (vs[·]?) with
  | some ws => .ret ws
  | none => .bad
def fnOfD : D → M Nat
  | .dict [(.none, .int k)] => need (decide (0 ≤ k)) (.ret k.toNat)
  | _ => .bad
/-- the cells of the feed's token -/
def cellsOf : D → M (List D)
  | .dict [(.none, .list l)] => .ret l
  | _ => .bad
def isNone_ : Sx → Bool
  | .none_ => true
  | _ => false

/-- the slot holds no own list -/
def noOwn (ρ : Ev) (i : Nat) : Bool := match ρ[i]? with
  | some (some (.own _)) => false
  | _ => true
/-- no own list among the slots that a comprehension takes -/
def datOnly (ρ : Ev) (vs : List Nat) : Bool := vs.all fun i => match ρ[i]? with
  | some (some (.own _)) => false
  | _ => true
/-- a target -/
def tgt : Sx → D → Ev → M Ev
  | .var i, d, ρ => .ret (put ρ i (.dat d))
  | .tup a, .tuple ds, ρ => tgt a (.list ds) ρ
  | .nil, .list [], ρ => .ret ρ
  | .cons t a, .list (d :: ds), ρ => (tgt t d ρ).bind fun ρ1 => tgt a (.list ds) ρ1
  | _, _, _ => .bad

def rdv (e : Sx) (f : Ev → M D) (ρ : Ev) : M D := match e with
  | .var i => gr ρ i
  | _ => f ρ
def tst (e : Sx) (f : Ev → M D) (ρ : Ev) : M Bool := match e with
  | .none_ => .ret true
  | _ => (rdv e f ρ).bind truD
def optv (e : Sx) (f : Ev → M D) (ρ : Ev) : M (Option Int) := match e with
  | .none_ => .ret none
  | _ => (f ρ).bind fun d => (intD d).bind fun i => .ret (some i)
def itmv (e : Sx) (f : Ev → M D) (ρ : Ev) : M (List D) := (rdv e f ρ).bind itmD
def lstD : D → M (List D)
  | .list a => .ret a
  | _ => .bad

def ev (F : Nat → List D → M D) : Sx → Ev → M D
  | .var i, ρ => gs ρ i
  | .cst d, _ => .ret d
  | .glob _ d, _ => .ret d
  | .fref _ k, _ => .ret (fnD k)
  | .nil, _ => .ret (.list [])
  | .cons e a, ρ => (ev F e ρ).bind fun d => (ev F a ρ).bind fun x => (lstD x).bind fun ds => .ret (.list (d :: ds))
  | .star e a, ρ => (rdv e (ev F e) ρ).bind fun y => (seqD y).bind fun es => (ev F a ρ).bind fun x => (lstD x).bind fun ds => .ret (.list (es ++ ds))
  | .tup a, ρ => (ev F a ρ).bind fun x => (lstD x).bind fun ds => need (decide (ds.length ≤ sizeLine)) (.ret (.tuple ds))
  | .lst a, ρ => (ev F a ρ).bind fun x => (lstD x).bind fun ds => need (decide (ds.length ≤ sizeLine)) (.ret (.list ds))
  | .call k a, ρ => (ev F a ρ).bind fun x => (lstD x).bind fun ds => F k ds
  | .callv i a, ρ => (gs ρ i).bind fun v => (fnOfD v).bind fun k => (ev F a ρ).bind fun x => (lstD x).bind fun ds => F k ds
  | .callk k p a, ρ => (ev F a ρ).bind fun x => (lstD x).bind fun vs => (permD vs p).bind fun ds => F k ds
  | .bi b a, ρ => (rdv a (ev F a) ρ).bind fun d => bi1 b d
  | .biIf b k a d, ρ => ((tst k (ev F k) ρ).bind fun z => if z = true then rdv a (ev F a) ρ else rdv d (ev F d) ρ).bind fun x => bi1 b x
  | .isi e t, ρ => (rdv e (ev F e) ρ).bind fun d => need (plainD d) (.ret (.bool (isTy t d)))
  | .upper e, ρ => (ev F e ρ).bind fun d => match d with
    | .str a => need (decide (a.length ≤ 5592405)) (.ret (.str (Txt.upper a)))
    | _ => .bad
  | .bin o a b, ρ => (rdv a (ev F a) ρ).bind fun x => (rdv b (ev F b) ρ).bind fun y => op2 o x y
  | .cmp o a b, ρ => (rdv a (ev F a) ρ).bind fun x => (rdv b (ev F b) ρ).bind fun y => cmp2 o x y
  | .chain o o' a b c, ρ => (rdv a (ev F a) ρ).bind fun x => (rdv b (ev F b) ρ).bind fun y => (cmp2 o x y).bind fun r => (boolD r).bind fun k => if k = true then (rdv c (ev F c) ρ).bind fun z => cmp2 o' y z else .ret (.bool false)
  | .neg a, ρ => (ev F a ρ).bind fun x => (intD x).bind fun i => .ret (.int (-i))
  | .nt a, ρ => (tst a (ev F a) ρ).bind fun k => .ret (.bool !k)
  | .and a b, ρ => (ev F a ρ).bind fun x => (truD x).bind fun k => if k = true then ev F b ρ else .ret x
  | .or a b, ρ => (ev F a ρ).bind fun x => (truD x).bind fun k => if k = true then .ret x else ev F b ρ
  | .ifx c a b, ρ => (tst c (ev F c) ρ).bind fun k => if k = true then ev F a ρ else ev F b ρ
  | .idx a b, ρ => (rdv a (ev F a) ρ).bind fun x => (ev F b ρ).bind fun y => idx2 x y
  | .sl a lo hi, ρ => (rdv a (ev F a) ρ).bind fun x => (optv lo (ev F lo) ρ).bind fun i => (optv hi (ev F hi) ρ).bind fun j => sl2 x i j
  | .rev a, ρ => (rdv a (ev F a) ρ).bind fun x => match x with
    | .list ds => .ret (.list ds.reverse)
    | .tuple ds => .ret (.tuple ds.reverse)
    | _ => .bad
  | .step a lo n, ρ => (rdv a (ev F a) ρ).bind fun x => (ev F lo ρ).bind fun y => match x, y with
    | .list ds, .int i => need (decide (n ≠ 0 ∧ (stepD ds i n).length ≤ sizeLine)) (.ret (.list (stepD ds i n)))
    | _, _ => .bad
  | .lc own tg it cd elt, ρ => (itmv it (ev F it) ρ).bind fun ds => need (datOnly ρ own) ((lcGo (fun d => tgt tg d (wip ρ own)) (tst cd (ev F cd)) (ev F elt) ds).bind fun ys => .ret (.list ys))
  | .rng1 a, ρ => (ev F a ρ).bind fun x => (intD x).bind fun i => need (decide (-(2 ^ 62) ≤ i ∧ i ≤ 1000000)) (.ret (.list (intR 0 i.toNat)))
  | .rng2 a b, ρ => (ev F a ρ).bind fun x => (ev F b ρ).bind fun y => (intD x).bind fun i => (intD y).bind fun j => need (decide (-(2 ^ 62) ≤ i ∧ i < 2 ^ 62 ∧ -(2 ^ 62) ≤ j ∧ j < 2 ^ 62 ∧ j - i ≤ 1000000)) (.ret (.list (intR i (j - i).toNat)))
  | .enum a, ρ => (rdv a (ev F a) ρ).bind fun x => (seqD x).bind fun ds => .ret (.list (enumGo 0 ds))
  | .zip a b, ρ => (ev F a ρ).bind fun x => (ev F b ρ).bind fun y => zipD x y
  | .lrng a, ρ => (ev F a ρ).bind fun x => (intD x).bind fun i => need (decide (-(2 ^ 62) ≤ i ∧ i ≤ 1000000)) (.ret (.list (intR 0 i.toNat)))
  | .fld i _, ρ => (gs ρ i).bind fun d => (cellsOf d).bind fun _ => .any fun n => .ret (.int n)
  | .fcl i, ρ => (gs ρ i).bind fun d => (cellsOf d).bind fun l => .ret (.list l)
  | .trng a, ρ => (ev F a ρ).bind fun x => (intD x).bind fun i => need (decide (-(2 ^ 62) ≤ i ∧ i ≤ 1000000)) (.ret (.tuple (intR 0 i.toNat)))
  | _, _ => .bad

def isFr : Sx → Bool
  | .lst _ | .lc .. | .lrng _ | .rev _ | .step .. | .bin .. | .sl .. => true
  | .bi .lst _ | .bi .srt _ => true
  | _ => false

/-- a fresh list as a slot's own, any data as data -/
def mkV (o : Bool) (e : Sx) (d : D) : M SV := if o = true then (lstD d).bind fun ds => need (isFr e) (.ret (.own (.list ds))) else .ret (.dat d)
def exGo (fu : Nat) (F : Nat → List D → M D) : Sx → Ev → M Out
  | .nil, ρ => .ret (.nx ρ)
  | .cons s r, ρ => (exGo fu F s ρ).bind fun o => match o with
    | .nx ρ1 => exGo fu F r ρ1
    | o => .ret o
  | .frz i, ρ => (frzD ρ i).bind fun ρ1 => .ret (.nx ρ1)
  | .asg tg e, ρ => (ev F e ρ).bind fun d => (tgt tg d ρ).bind fun ρ1 => .ret (.nx ρ1)
  | .fput i _ e, ρ => (ev F e ρ).bind fun d => (intD d).bind fun _ => (gs ρ i).bind fun x => (cellsOf x).bind fun _ => .ret (.nx ρ)
  | .asgO i e, ρ => (ev F e ρ).bind fun d => match d with
    | .list ds => need (isFr e) (.ret (.nx (put ρ i (.own (.list ds)))))
    | _ => .bad
  | .par i oi a j oj b, ρ => (ev F a ρ).bind fun x => (ev F b ρ).bind fun y => need (decide (i ≠ j)) ((mkV oi a x).bind fun v => (mkV oj b y).bind fun w => .ret (.nx (put (put ρ i v) j w)))
  | .bor i j c e, ρ => (tst c (ev F c) ρ).bind fun k => if k = true then (ev F e ρ).bind fun d => .ret (.nx (put ρ i (.dat d))) else (go ρ j).bind fun ds => need (noOwn ρ i) (.ret (.nx (put ρ i (.bor (.list ds)))))
  | .app i e, ρ => (go ρ i).bind fun ds => (ev F e ρ).bind fun d => need (decide (ds.length < sizeLine)) (.ret (.nx (chg ρ i (ds ++ [d]))))
  | .ext i e, ρ => (go ρ i).bind fun ds => (rdv e (ev F e) ρ).bind fun d => (lstD d).bind fun es => need (decide (ds.length + es.length ≤ sizeLine)) (.ret (.nx (chg ρ i (ds ++ es))))
  | .rmv i e, ρ => (go ρ i).bind fun ds => (ev F e ρ).bind fun d => match intsOf ds, d, rmvD d ds with
    | some _, .int _, some es => .ret (.nx (chg ρ i es))
    | _, _, _ => .bad
  | .popS i e, ρ => (go ρ i).bind fun ds => (ev F e ρ).bind fun d => (intD d).bind fun k => match popD ds k with
    | some (_, es) => .ret (.nx (chg ρ i es))
    | none => .bad
  | .appPop i j e, ρ => (go ρ i).bind fun cs => (go ρ j).bind fun ds => (ev F e ρ).bind fun d => (intD d).bind fun k => match popD ds k with
    | some (z, es) => need (decide (cs.length < sizeLine ∧ i ≠ j)) (.ret (.nx (chg (chg ρ j es) i (cs ++ [z]))))
    | none => .bad
  | .asgPop tg j, ρ => (go ρ j).bind fun ds => match popD ds (-1) with
    | some (d, es) => (tgt tg d (chg ρ j es)).bind fun ρ1 => .ret (.nx ρ1)
    | none => .bad
  | .augI i e, ρ => (gs ρ i).bind fun x => (ev F e ρ).bind fun y => (intD x).bind fun a => (intD y).bind fun b => .ret (.nx (put ρ i (.dat (.int (a + b)))))
  | .iff c a b, ρ => (tst c (ev F c) ρ).bind fun k => if k = true then exGo fu F a ρ else exGo fu F b ρ
  | .forS tg it b, ρ => (ev F it ρ).bind fun d => (itmD d).bind fun ds => forGo (tgt tg) (exGo fu F b) ds ρ
  | .whil c b, ρ => whGo (tst c (ev F c)) (exGo fu F b) fu ρ
  | .ret e, ρ => (rdv e (ev F e) ρ).bind fun d => .ret (.rt d)
  | .retN, _ => .ret (.rt .none)
  | .expr e, ρ => (ev F e ρ).bind fun _ => .ret (.nx ρ)
  | .cont, ρ => .ret (.ct ρ)
  | .brk, ρ => .ret (.bk ρ)
  | .pas, ρ => .ret (.nx ρ)
  | _, _ => .bad
/-- the slots at a def's entry -/
def ev0 (n : Nat) (ds : List D) : Ev := ds.map (fun d => some (.dat d)) ++ List.replicate (n - ds.length) none
/-- a def's meaning -/
def runD (fu n : Nat) (F : Nat → List D → M D) (b : Sx) (ds : List D) : M D := (exGo fu F b (ev0 n ds)).bind fun o => match o with
  | .rt d => .ret d
  | .nx _ => .ret .none
  | _ => .bad
end Pf
/-! PfC: how data stand in the heap. H : all that is tracked; H0 : the part that never changes. -/
namespace Pf
open PySem PySem.Spec PyProof.Rows L2

structure Gc where
  K : PySem.W.Frag
  fn : Nat → Option Addr
  fk : Str × Str × Str × Str
  ns : List Int

mutual
inductive Rp (g : Gc) (fa : Option Addr) (H : Hp) : V → D → Prop
  | non : Rp g fa H .non .none
  | bl (b : Bool) : Rp g fa H (.bl b) (.bool b)
  | int (i : Int) : Rp g fa H (.int i) (.int i)
  | str (x : Str) : Rp g fa H (.str x) (.str x)
  | lst {a : Addr} {xs : List V} {ds : List D} : H a = some (.lst xs) → RpAll g fa H xs ds → Rp g fa H (.ref a) (.list ds)
  | tup {a : Addr} {xs : List V} {ds : List D} : SqT g.K H a xs → RpAll g fa H xs ds → Rp g fa H (.ref a) (.tuple ds)
  | feed {a : Addr} : fa = some a → Rp g fa H (.ref a) (feedD g.ns)
  | fn {a : Addr} {k : Nat} : g.fn k = some a → Rp g fa H (.ref a) (fnD k)
inductive RpAll (g : Gc) (fa : Option Addr) (H : Hp) : List V → List D → Prop
  | nil : RpAll g fa H [] []
  | cons {v : V} {vs : List V} {d : D} {ds : List D} : Rp g fa H v d → RpAll g fa H vs ds → RpAll g fa H (v :: vs) (d :: ds)
end

theorem sqL_mono {K : PySem.W.Frag} {H H' : Hp} {a : Addr} {xs : List V} (s : ∀ a o, H a = some o → H' a = some o) (h : SqL K H a xs) : SqL K H' a xs := by
  rcases h with (h | ⟨o, h⟩) | h
  · exact .inl (.inl (s _ _ h))
  · exact .inl (.inr ⟨o, s _ _ h⟩)
  · exact .inr h
theorem sqT_mono {K : PySem.W.Frag} {H H' : Hp} {a : Addr} {xs : List V} (s : ∀ a o, H a = some o → H' a = some o) (h : SqT K H a xs) : SqT K H' a xs := by
  rcases h with (h | ⟨o, h⟩) | h
  · exact .inl (.inl (s _ _ h))
  · exact .inl (.inr ⟨o, s _ _ h⟩)
  · exact .inr h

section
variable {g : Gc} {fa : Option Addr} {H H' : Hp}
mutual
theorem Rp.mono (s : ∀ a o, H a = some o → H' a = some o) : ∀ {v : V} {d : D}, Rp g fa H v d → Rp g fa H' v d
  | _, _, .non => .non
  | _, _, .bl b => .bl b
  | _, _, .int i => .int i
  | _, _, .str x => .str x
  | _, _, .lst h a => .lst (s _ _ h) (RpAll.mono s a)
  | _, _, .tup h a => .tup (sqT_mono s h) (RpAll.mono s a)
  | _, _, .feed h => .feed h
  | _, _, .fn h => .fn h
theorem RpAll.mono (s : ∀ a o, H a = some o → H' a = some o) : ∀ {v : List V} {d : List D}, RpAll g fa H v d → RpAll g fa H' v d
  | _, _, .nil => .nil
  | _, _, .cons h t => .cons (Rp.mono s h) (RpAll.mono s t)
end
theorem RpAll.len : ∀ {vs : List V} {ds : List D}, RpAll g fa H vs ds → vs.length = ds.length
  | _, _, .nil => rfl
  | _, _, .cons _ t => by rw [List.length_cons, List.length_cons, RpAll.len t]
theorem RpAll.get : ∀ {vs : List V} {ds : List D} {i : Nat} {v : V}, RpAll g fa H vs ds → vs[i]? = some v → ∃ d, ds[i]? = some d ∧ Rp g fa H v d
  | _, _, i, v, .nil, e => by simp at e
  | _, _, 0, v, .cons h t, e => by
    simp at e; subst e; exact ⟨_, rfl, h⟩
  | _, _, i + 1, v, .cons h t, e => by
    obtain ⟨d, h1, h2⟩ := RpAll.get (i := i) t (by simpa using e)
    exact ⟨d, by simpa using h1, h2⟩
theorem RpAll.get' : ∀ {vs : List V} {ds : List D} {i : Nat} {d : D}, RpAll g fa H vs ds → ds[i]? = some d → ∃ v, vs[i]? = some v ∧ Rp g fa H v d
  | _, _, i, v, .nil, e => by simp at e
  | _, _, 0, v, .cons h t, e => by
    simp at e; subst e; exact ⟨_, rfl, h⟩
  | _, _, i + 1, v, .cons h t, e => by
    obtain ⟨d, h1, h2⟩ := RpAll.get' (i := i) t (by simpa using e)
    exact ⟨d, by simpa using h1, h2⟩
theorem RpAll.append : ∀ {vs ws : List V} {ds es : List D}, RpAll g fa H vs ds → RpAll g fa H ws es → RpAll g fa H (vs ++ ws) (ds ++ es)
  | _, _, _, _, .nil, h => h
  | _, _, _, _, .cons h t, s => .cons h (RpAll.append t s)
theorem RpAll.take : ∀ {vs : List V} {ds : List D} (n : Nat), RpAll g fa H vs ds → RpAll g fa H (vs.take n) (ds.take n)
  | _, _, 0, _ => .nil
  | _, _, n + 1, .nil => .nil
  | _, _, n + 1, .cons h t => .cons h (RpAll.take n t)
theorem RpAll.drop : ∀ {vs : List V} {ds : List D} (n : Nat), RpAll g fa H vs ds → RpAll g fa H (vs.drop n) (ds.drop n)
  | _, _, 0, h => h
  | _, _, n + 1, .nil => .nil
  | _, _, n + 1, .cons h t => RpAll.drop n t
theorem RpAll.reverse : ∀ {vs : List V} {ds : List D}, RpAll g fa H vs ds → RpAll g fa H vs.reverse ds.reverse
  | _, _, .nil => .nil
  | _, _, .cons h t => by
    rw [List.reverse_cons, List.reverse_cons]
    exact (RpAll.reverse t).append (.cons h .nil)
theorem RpAll.erase : ∀ {vs : List V} {ds : List D} (n : Nat), RpAll g fa H vs ds → RpAll g fa H (vs.eraseIdx n) (ds.eraseIdx n)
  | _, _, _, .nil => .nil
  | _, _, 0, .cons h t => t
  | _, _, n + 1, .cons h t => .cons h (RpAll.erase n t)
theorem RpAll.one {v : V} {d : D} (h : Rp g fa H v d) : RpAll g fa H [v] [d] := .cons h .nil
end

/-! ### data without dicts are the kit's data -/
mutual
theorem Rp.dp {g : Gc} {fa : Option Addr} {H : Hp} : ∀ (d : D) {v : V}, d.canLay0 = true → Rp g fa H v d → Dp g.K H v d
  | .none, _, _, .non => .non
  | .bool _, _, _, .bl b => .bl b
  | .int _, _, _, .int i => .int i
  | .str _, _, _, .str x => .str x
  | .list ds, _, hl, .lst h a => .lst (.inl (.inl h)) (RpAll.dp ds (by simpa [PyData.canLay0] using hl) a)
  | .tuple ds, _, hl, .tup h a => .tup h (RpAll.dp ds (by simpa [PyData.canLay0] using hl) a)
  | .dict kvs, _, hl, h => by simp [PyData.canLay0] at hl
theorem RpAll.dp {g : Gc} {fa : Option Addr} {H : Hp} : ∀ (ds : List D) {vs : List V}, PyData.canLayAll0 ds = true → RpAll g fa H vs ds → DpAll g.K H vs ds
  | [], _, _, .nil => .nil
  | d :: ds, _, hl, .cons h t => by
    simp only [PyData.canLayAll0, Bool.and_eq_true] at hl
    exact .cons (Rp.dp d hl.1 h) (RpAll.dp ds hl.2 t)
end
theorem Rp.dps {g : Gc} {fa : Option Addr} {H : Hp} {d : D} {v : V} (hs : SeqAt.shaped d = true) (h : Rp g fa H v d) : Dp g.K H v d :=
  Rp.dp d (by unfold SeqAt.shaped at hs; rw [Bool.and_eq_true] at hs; exact hs.1) h

/-! ### the feed, the frame of what never changes -/
def Feed (g : Gc) (H0 H : Hp) (a : Addr) : Prop :=
  ∃ (ca : Addr) (ns : Unit) (x y z : Int), H a = some (.dK [(.inr g.fk.1, .ref ca), (.inr g.fk.2.1, .int x), (.inr g.fk.2.2.1, .int y), (.inr g.fk.2.2.2, .int z)]) ∧ H0 ca = some (.lst (g.ns.map V.int))
structure Bs (g : Gc) (fa : Option Addr) (H0 H : Hp) : Prop where
  sub : ∀ a o, H0 a = some o → H a = some o
  fd : ∀ a, fa = some a → Feed g H0 H a ∧ H0 a = none
structure Ext (g : Gc) (fa : Option Addr) (H0 H H0' H' : Hp) : Prop where
  bs : Bs g fa H0' H'
  lo : ∀ a o, H0 a = some o → H0' a = some o
  hi : ∀ a o, fa ≠ some a → H a = some o → H' a = some o
  nw : ∀ a, H0 a = none → H0' a = none ∨ H a = none
section
variable {g : Gc} {fa : Option Addr} {H0 H H1 H2 H01 H02 : Hp}
theorem Ext.refl (b : Bs g fa H0 H) : Ext g fa H0 H H0 H := ⟨b, fun _ _ h => h, fun _ _ _ h => h, fun _ h => .inl h⟩
theorem Ext.trans (x : Ext g fa H0 H H01 H1) (y : Ext g fa H01 H1 H02 H2) : Ext g fa H0 H H02 H2 where
  bs := y.bs
  lo := fun a o h => y.lo a o (x.lo a o h)
  hi := fun a o hf h => y.hi a o hf (x.hi a o hf h)
  nw := fun a h => by
    rcases x.nw a h with q | q
    · rcases y.nw a q with r | r
      · exact .inl r
      · by_cases hf : fa = some a
        · exact .inl (y.bs.fd a hf).2
        · refine .inr ?_
          cases e : H a with
          | none => rfl
          | some o => rw [x.hi a o hf e] at r; cases r
    · exact .inr q
/-- a new thing, as data -/
theorem Bs.alloc (b : Bs g fa H0 H) {p : Addr} {o : HO} (hp : H p = none) : Ext g fa H0 H (upd H0 p o) (upd H p o) := by
  have hf : ∀ a, fa = some a → a ≠ p := fun a e z => by
    obtain ⟨⟨ca, ns, x, y, w, h, _⟩, _⟩ := b.fd a e
    subst z
    rw [hp] at h; cases h
  have h0 : H0 p = none := by
    cases e : H0 p with
    | none => rfl
    | some u => rw [b.sub p u e] at hp; cases hp
  refine ⟨⟨fun a u e => ?_, fun a e => ?_⟩, fun a u e => ?_, fun a u _ e => ?_, fun a e => ?_⟩
  · by_cases ha : a = p
    · subst ha; rw [upd_same] at e ⊢; exact e
    · rw [upd_ne ha] at e ⊢; exact b.sub a u e
  · obtain ⟨⟨ca, ns, x, y, w, h, hc⟩, hn⟩ := b.fd a e
    refine ⟨⟨ca, ns, x, y, w, ?_, ?_⟩, ?_⟩
    · rw [upd_ne (hf a e)]; exact h
    · rw [upd_ne (ne_of_none hc h0)]; exact hc
    · rw [upd_ne (hf a e)]; exact hn
  · rw [upd_ne (ne_of_none e h0)]; exact e
  · rw [upd_ne (ne_of_none e hp)]; exact e
  · by_cases ha : a = p
    · subst ha; exact .inr hp
    · rw [upd_ne ha]; exact .inl e
/-- a new thing of the def's own -/
theorem Bs.allocP (b : Bs g fa H0 H) {p : Addr} {o : HO} (hp : H p = none) : Ext g fa H0 H H0 (upd H p o) := by
  have hf : ∀ a, fa = some a → a ≠ p := fun a e z => by
    obtain ⟨⟨ca, ns, x, y, w, h, _⟩, _⟩ := b.fd a e
    subst z
    rw [hp] at h; cases h
  refine ⟨⟨fun a u e => ?_, fun a e => ?_⟩, fun a u e => e, fun a u _ e => ?_, fun a e => .inl e⟩
  · have := b.sub a u e
    rw [upd_ne (ne_of_none this hp)]; exact this
  · obtain ⟨⟨ca, ns, x, y, w, h, hc⟩, hn⟩ := b.fd a e
    exact ⟨⟨ca, ns, x, y, w, by rw [upd_ne (hf a e)]; exact h, hc⟩, hn⟩
  · rw [upd_ne (ne_of_none e hp)]; exact e
/-- an own thing becomes data -/
theorem Bs.freeze (b : Bs g fa H0 H) {p : Addr} {o : HO} (hp : H p = some o) (h0 : H0 p = none) (hf : fa ≠ some p) : Bs g fa (upd H0 p o) H := by
  refine ⟨fun a u e => ?_, fun a e => ?_⟩
  · by_cases ha : a = p
    · subst ha; rw [upd_same] at e; cases e; exact hp
    · rw [upd_ne ha] at e; exact b.sub a u e
  · obtain ⟨⟨ca, ns, x, y, w, h, hc⟩, hn⟩ := b.fd a e
    have hap : a ≠ p := fun z => hf (z ▸ e)
    exact ⟨⟨ca, ns, x, y, w, h, by rw [upd_ne (ne_of_none hc h0)]; exact hc⟩, by rw [upd_ne hap]; exact hn⟩
theorem fne_lst (b : Bs g fa H0 H) {p : Addr} {xs : List V} (hp : H p = some (.lst xs)) : fa ≠ some p := fun e => by
  obtain ⟨⟨ca, ns, x, y, w, h, _⟩, _⟩ := b.fd p e
  rw [hp] at h; cases h
theorem fne_tup (b : Bs g fa H0 H) {p : Addr} {xs : List V} (hp : H p = some (.tup xs)) : fa ≠ some p := fun e => by
  obtain ⟨⟨ca, ns, x, y, w, h, _⟩, _⟩ := b.fd p e
  rw [hp] at h; cases h
end

/-! ### slots -/
/-- an own list at a -/
def OwnAt (g : Gc) (fa : Option Addr) (H0 H : Hp) (a : Addr) (d : D) : Prop :=
  H0 a = none ∧ ∃ xs ds, d = .list ds ∧ H a = some (.lst xs) ∧ RpAll g fa H0 xs ds
def SlotOk (g : Gc) (fa : Option Addr) (H0 H : Hp) (σ : L2.St) (ρ : Ev) (v : V) : SV → Prop
  | .dat d => Rp g fa H0 v d
  | .own d => ∃ a, v = .ref a ∧ OwnAt g fa H0 H a d
  | .bor d => Rp g fa H0 v d ∨ ∃ (j : Nat), σ[j]? = some (some v) ∧ ρ[j]? = some (some (.own d))
structure RepS (g : Gc) (fa : Option Addr) (H0 H : Hp) (σ : L2.St) (ρ : Ev) : Prop where
  bs : Bs g fa H0 H
  len : σ.length = ρ.length
  slot : ∀ (i : Nat) sv, ρ[i]? = some (some sv) → ∃ v, σ[i]? = some (some v) ∧ SlotOk g fa H0 H σ ρ v sv
  own : ∀ (i j : Nat) d e v, ρ[i]? = some (some (.own d)) → ρ[j]? = some (some (.own e)) → σ[i]? = some (some v) → σ[j]? = some (some v) → i = j
section
variable {g : Gc} {fa : Option Addr} {H0 H H0' H' : Hp} {σ : L2.St} {ρ : Ev}
theorem OwnAt.ext {a : Addr} {d : D} (o : OwnAt g fa H0 H a d) (b : Bs g fa H0 H) (x : Ext g fa H0 H H0' H') : OwnAt g fa H0' H' a d := by
  obtain ⟨h0, xs, ds, rfl, h, r⟩ := o
  refine ⟨?_, xs, ds, rfl, x.hi a _ (fne_lst b h) h, r.mono x.lo⟩
  rcases x.nw a h0 with q | q
  · exact q
  · rw [h] at q; cases q
theorem RepS.ext (R : RepS g fa H0 H σ ρ) (x : Ext g fa H0 H H0' H') : RepS g fa H0' H' σ ρ := by
  refine ⟨x.bs, R.len, fun i sv e => ?_, R.own⟩
  obtain ⟨v, hv, s⟩ := R.slot i sv e
  refine ⟨v, hv, ?_⟩
  cases sv with
  | dat d => exact Rp.mono x.lo s
  | own d =>
    obtain ⟨a, rfl, o⟩ := s
    exact ⟨a, rfl, o.ext R.bs x⟩
  | bor d =>
    rcases s with s | s
    · exact .inl (Rp.mono x.lo s)
    · exact .inr s
/-- fewer slots known -/
theorem RepS.weak {ρ' : Ev} (R : RepS g fa H0 H σ ρ) (hl : ρ'.length = ρ.length) (w : ∀ (i : Nat) sv, ρ'[i]? = some (some sv) → ρ[i]? = some (some sv))
    (hb : ∀ (i : Nat) (d : D), ρ'[i]? = some (some (SV.bor d)) → ∀ j : Nat, ρ[j]? = some (some (SV.own d)) → ρ'[j]? = some (some (SV.own d))) : RepS g fa H0 H σ ρ' := by
  refine ⟨R.bs, R.len.trans hl.symm, fun i sv e => ?_, fun i j d e v h1 h2 => R.own i j d e v (w _ _ h1) (w _ _ h2)⟩
  obtain ⟨v, hv, s⟩ := R.slot i sv (w i sv e)
  refine ⟨v, hv, ?_⟩
  cases sv with
  | dat d => exact s
  | own d => exact s
  | bor d =>
    rcases s with s | ⟨j, h1, h2⟩
    · exact .inl s
    · exact .inr ⟨j, h1, hb i d e j h2⟩

/-- what may be looked at: data, or an own list -/
def Rv (g : Gc) (fa : Option Addr) (H0 H : Hp) (v : V) (d : D) : Prop := Rp g fa H0 v d ∨ ∃ a, v = .ref a ∧ OwnAt g fa H0 H a d
theorem Rv.ext {v : V} {d : D} (r : Rv g fa H0 H v d) (b : Bs g fa H0 H) (x : Ext g fa H0 H H0' H') : Rv g fa H0' H' v d := by
  rcases r with r | ⟨a, rfl, o⟩
  · exact .inl (Rp.mono x.lo r)
  · exact .inr ⟨a, rfl, o.ext b x⟩
/-- as it is read in the whole heap -/
theorem Rv.rp {v : V} {d : D} (r : Rv g fa H0 H v d) (b : Bs g fa H0 H) : Rp g fa H v d := by
  rcases r with r | ⟨a, rfl, _, xs, ds, rfl, h, q⟩
  · exact Rp.mono b.sub r
  · exact .lst h (q.mono b.sub)
/-- a list's items -/
theorem Rv.list {v : V} {ds : List D} (r : Rv g fa H0 H v (.list ds)) (b : Bs g fa H0 H) : ∃ a xs, v = .ref a ∧ H a = some (.lst xs) ∧ RpAll g fa H0 xs ds := by
  rcases r with r | ⟨a, rfl, _, xs, es, e, h, q⟩
  · cases r with
    | lst h q => exact ⟨_, _, rfl, b.sub _ _ h, q⟩
  · cases e
    exact ⟨a, xs, rfl, h, q⟩
theorem Rv.tuple {v : V} {ds : List D} (r : Rv g fa H0 H v (.tuple ds)) (b : Bs g fa H0 H) : ∃ a xs, v = .ref a ∧ SqT g.K H a xs ∧ RpAll g fa H0 xs ds := by
  rcases r with r | ⟨a, rfl, _, xs, es, e, h, q⟩
  · cases r with
    | tup h q => exact ⟨_, _, rfl, sqT_mono b.sub h, q⟩
  · cases e
theorem Rv.int {v : V} {i : Int} (r : Rv g fa H0 H v (.int i)) : v = .int i := by
  rcases r with r | ⟨a, rfl, _, xs, es, e, h, q⟩
  · cases r; rfl
  · cases e
theorem Rv.str {v : V} {i : Str} (r : Rv g fa H0 H v (.str i)) : v = .str i := by
  rcases r with r | ⟨a, rfl, _, xs, es, e, h, q⟩
  · cases r; rfl
  · cases e
theorem Rv.bl {v : V} {i : Bool} (r : Rv g fa H0 H v (.bool i)) : v = .bl i := by
  rcases r with r | ⟨a, rfl, _, xs, es, e, h, q⟩
  · cases r; rfl
  · cases e
theorem Rv.non {v : V} (r : Rv g fa H0 H v .none) : v = .non := by
  rcases r with r | ⟨a, rfl, _, xs, es, e, h, q⟩
  · cases r; rfl
  · cases e
/-- three ways a value may come: as data; a list as a fresh one (not there at Hs); to be looked at -/
inductive Md where
  | p | f | v
def Rel (g : Gc) (fa : Option Addr) (m : Md) (Hs H0 H : Hp) (v : V) (d : D) : Prop := match m, d with
  | .p, d => Rp g fa H0 v d
  | .v, d => Rv g fa H0 H v d
  | .f, .list ds => ∃ a, v = .ref a ∧ Hs a = none ∧ OwnAt g fa H0 H a (.list ds)
  | .f, d => Rp g fa H0 v d
theorem Ext.free (x : Ext g fa H0 H H0' H') (b : Bs g fa H0 H) {p : Addr} (hp : H' p = none) : H p = none := by
  cases e : H p with
  | none => rfl
  | some o =>
    by_cases hf : fa = some p
    · obtain ⟨⟨_, _, _, _, _, h, _⟩, _⟩ := x.bs.fd p hf
      rw [hp] at h; cases h
    · rw [x.hi p o hf e] at hp; cases hp
/-- freezing a fresh list -/
theorem Ext.freeze (x : Ext g fa H0 H H0' H') {a : Addr} {xs : List V} (hs : H a = none) (h0 : H0' a = none) (h : H' a = some (.lst xs)) : Ext g fa H0 H (upd H0' a (.lst xs)) H' := by
  refine ⟨x.bs.freeze h h0 (fne_lst x.bs h), fun b o e => ?_, x.hi, fun b e => ?_⟩
  · have := x.lo b o e
    rw [upd_ne (ne_of_none this h0)]; exact this
  · by_cases hb : b = a
    · subst hb; exact .inr hs
    · rw [upd_ne hb]; exact x.nw b e
/-- any way of coming, as data -/
theorem Rel.data {Hs : Hp} {v : V} {d : D} (x : Ext g fa H0 H H0' H') (r : Rel g fa .f H H0' H' v d) : ∃ H0'', Ext g fa H0 H H0'' H' ∧ (∀ a o, H0' a = some o → H0'' a = some o) ∧ Rp g fa H0'' v d := by
  cases d with
  | list ds =>
    obtain ⟨a, rfl, hs, h0, xs, es, e, h, q⟩ := r
    cases e
    have lo : ∀ b o, H0' b = some o → (upd H0' a (.lst xs)) b = some o := fun b o e => by rw [upd_ne (ne_of_none e h0)]; exact e
    exact ⟨_, x.freeze hs h0 h, lo, .lst upd_same (q.mono lo)⟩
  | none => exact ⟨_, x, fun _ _ h => h, r⟩
  | bool b => exact ⟨_, x, fun _ _ h => h, r⟩
  | int b => exact ⟨_, x, fun _ _ h => h, r⟩
  | str b => exact ⟨_, x, fun _ _ h => h, r⟩
  | tuple b => exact ⟨_, x, fun _ _ h => h, r⟩
  | dict b => exact ⟨_, x, fun _ _ h => h, r⟩
theorem Rel.p {Hs : Hp} {m : Md} {v : V} {d : D} (hm : m ≠ .f ∨ ∀ ds, d ≠ .list ds) (r : Rp g fa H0 v d) : Rel g fa m Hs H0 H v d := by
  cases m with
  | p => exact r
  | v => exact .inl r
  | f =>
    rcases hm with h | h
    · exact absurd rfl h
    · cases d with
      | list ds => exact absurd rfl (h ds)
      | none => exact r
      | bool b => exact r
      | int b => exact r
      | str b => exact r
      | tuple b => exact r
      | dict b => exact r
end
end Pf
/-! PfD: operators by data. -/
namespace Pf
open PySem PySem.Spec PyProof.Rows L2

def toOp : Op2 → Operator
  | .add => .Add
  | .sub => .Sub
  | .mul => .Mult
  | .mod => .Mod
  | .fdiv => .FloorDiv
  | .pow => .Pow
def toCm : Cm → CmpOp
  | .lt => .Lt
  | .le => .LtE
  | .gt => .Gt
  | .ge => .GtE
  | .eq => .Eq
  | .ne => .NotEq
  | .isin => .In
  | .notin => .NotIn

abbrev R2or (r s : R2) : R2 := fun x y H Q => r x y H Q ∨ s x y H Q
def rBI (f : Int → Int → Int) : R2 := fun x y H Q => ∃ k i, x = .bl k ∧ y = .int i ∧ Q (.int (f (if k = true then 1 else 0) i)) H
def rIB (f : Int → Int → Int) : R2 := fun x y H Q => ∃ i k, x = .int i ∧ y = .bl k ∧ Q (.int (f i (if k = true then 1 else 0))) H
theorem op_addBI {X : Cx} : OpR X (binaryOp .Add) (rBI (· + ·)) := by
  intro pins s σ H x y v u Q I rx ry h
  obtain ⟨k, i, rfl, rfl, q⟩ := h
  cases rx
  obtain ⟨t, rfl⟩ := ry
  exact PySem.IntBool.add_bool_int ⟨.int _, H, I.tok _, ⟨_, rfl⟩, q⟩
theorem op_subBI {X : Cx} : OpR X (binaryOp .Sub) (rBI (· - ·)) := by
  intro pins s σ H x y v u Q I rx ry h
  obtain ⟨k, i, rfl, rfl, q⟩ := h
  cases rx
  obtain ⟨t, rfl⟩ := ry
  exact PySem.IntBool.sub_bool_int ⟨.int _, H, I.tok _, ⟨_, rfl⟩, q⟩
theorem op_subIB {X : Cx} : OpR X (binaryOp .Sub) (rIB (· - ·)) := by
  intro pins s σ H x y v u Q I rx ry h
  obtain ⟨i, k, rfl, rfl, q⟩ := h
  obtain ⟨t, rfl⟩ := rx
  cases ry
  exact PySem.IntBool.sub_int_bool ⟨.int _, H, I.tok _, ⟨_, rfl⟩, q⟩
def rOp2 (K : PySem.W.Frag) : Op2 → R2
  | .add => R2or (rI0 fun i j => .int (i + j)) (R2or (fun x y H Q => ∃ i j, x = .str i ∧ y = .str j ∧ i.length + j.length ≤ sizeLine ∧ Q (.str (i ++ j)) H) (R2or rCat (R2or (rCatA K) (rBI (· + ·)))))
  | .sub => R2or (rI0 fun i j => .int (i - j)) (R2or (rBI (· - ·)) (rIB (· - ·)))
  | .mul => R2or (rI CMul fun i j => .int (i * j)) (R2or rRep (rRepT K))
  | .mod => rI (fun _ j => j ≠ 0) fun i j => .int (i.fmod j)
  | .fdiv => rI CDivN fun i j => .int (i.fdiv j)
  | .pow => rI CPow fun i j => .int (i ^ j.toNat)
theorem op2_rule {X : Cx} (o : Op2) : OpR X (binaryOp (toOp o)) (rOp2 X.K o) := by
  cases o with
  | add => exact OpR.or op_add (OpR.or op_add_str (OpR.or op_cat (OpR.or op_catA op_addBI)))
  | sub => exact OpR.or op_sub (OpR.or op_subBI op_subIB)
  | mul => exact OpR.or op_mul (OpR.or op_rep op_repT)
  | mod => exact op_modN
  | fdiv => exact op_fdivN
  | pow => exact op_pow

section
variable {g : Gc} {fa : Option Addr} {H0 H : Hp} {v w : V} {d e : D} {Q : VK}
/-- what follows an operator -/
def Aft (g : Gc) (fa : Option Addr) (H0 H : Hp) (Q : VK) (r : D) : Prop := ∀ v' H0' H', Ext g fa H0 H H0' H' → Rel g fa .f H H0' H' v' r → Q v' H'
theorem Aft.at (b : Bs g fa H0 H) (h : Aft g fa H0 H Q d) (r : Rp g fa H0 v d) (hd : ∀ ds, d ≠ .list ds) : Q v H := h v H0 H (Ext.refl b) (Rel.p (.inr hd) r)
theorem Aft.newL (b : Bs g fa H0 H) {xs : List V} {ds : List D} (h : Aft g fa H0 H Q (.list ds)) (r : RpAll g fa H0 xs ds) {p : Addr} (hp : H p = none) : Q (.ref p) (upd H p (.lst xs)) := by
  have x := b.allocP (o := .lst xs) hp
  have h0 : H0 p = none := by
    cases e : H0 p with
    | none => rfl
    | some u => rw [b.sub p u e] at hp; cases hp
  exact h _ _ _ x ⟨p, rfl, hp, h0, xs, ds, rfl, upd_same, r⟩
theorem Aft.newT (b : Bs g fa H0 H) {xs : List V} {ds : List D} (h : Aft g fa H0 H Q (.tuple ds)) (r : RpAll g fa H0 xs ds) {p : Addr} (hp : H p = none) : Q (.ref p) (upd H p (.tup xs)) := by
  have x := b.alloc (o := .tup xs) hp
  exact h _ _ _ x (Rp.tup (.inl (.inl upd_same)) (r.mono x.lo))
theorem RpAll.rep {xs : List V} {ds : List D} (r : RpAll g fa H0 xs ds) : ∀ n : Nat, RpAll g fa H0 (List.replicate n xs).flatten (repD ds n)
  | 0 => .nil
  | n + 1 => by
    unfold repD
    rw [List.replicate_succ, List.replicate_succ, List.flatten_cons, List.flatten_cons]
    exact r.append (RpAll.rep r n)
theorem RpAll.nil_iff {xs : List V} {ds : List D} (r : RpAll g fa H0 xs ds) : xs = [] ↔ ds = [] := by
  cases r <;> simp
theorem Rv.data (rv : Rv g fa H0 H v d) (hd : ∀ ds, d ≠ .list ds) : Rp g fa H0 v d := by
  rcases rv with r | ⟨_, _, _, _, ds, z, _⟩
  · exact r
  · exact absurd z (hd ds)
theorem op2_ok (b : Bs g fa H0 H) (o : Op2) (rv : Rv g fa H0 H v d) (rw' : Rv g fa H0 H w e) (h : WP (op2 o d e) (Aft g fa H0 H Q)) : rOp2 g.K o v w H Q := by
  cases o with
  | add =>
    cases d <;> cases e <;> simp only [op2, wp_bad] at h
    · cases rv.bl; cases rw'.int
      exact .inr (.inr (.inr (.inr ⟨_, _, rfl, rfl, h.at b (.int _) (fun _ z => by cases z)⟩)))
    · cases rv.int; cases rw'.int
      exact .inl ⟨_, _, rfl, rfl, h.at b (.int _) (fun _ z => by cases z)⟩
    · obtain ⟨hc, h⟩ := wp_need h
      cases rv.str; cases rw'.str
      exact .inr (.inl ⟨_, _, rfl, rfl, of_decide_eq_true hc, Aft.at b h (.str _) (fun _ z => by cases z)⟩)
    · obtain ⟨hc, h⟩ := wp_need h
      obtain ⟨a, xs, rfl, h1, r1⟩ := rv.list b
      obtain ⟨a', ys, rfl, h2, r2⟩ := rw'.list b
      have hc := of_decide_eq_true hc
      refine .inr (.inr (.inl ⟨a, a', xs, ys, rfl, rfl, h1, h2, by rw [r1.len, r2.len]; exact hc, fun p hp => ?_⟩))
      exact Aft.newL b h (r1.append r2) hp
    · obtain ⟨hc, h⟩ := wp_need h
      obtain ⟨a, xs, rfl, h1, r1⟩ := rv.tuple b
      obtain ⟨a', ys, rfl, h2, r2⟩ := rw'.tuple b
      have hc := of_decide_eq_true hc
      have t1 := rv.data (fun _ z => by cases z)
      have t2 := rw'.data (fun _ z => by cases z)
      refine .inr (.inr (.inr (.inl ⟨a, a', xs, ys, rfl, rfl, h1, h2, by rw [r1.len, r2.len]; exact hc, fun z => ?_, fun _ z => ?_, fun _ _ p hp => ?_⟩)))
      · have z' := r1.nil_iff.mp z
        subst z'
        exact Aft.at b h t2 (fun _ z => by cases z)
      · have z' := r2.nil_iff.mp z
        subst z'
        rw [List.append_nil] at h
        exact Aft.at b h t1 (fun _ z => by cases z)
      · exact Aft.newT b h (r1.append r2) hp
  | sub =>
    cases d <;> cases e <;> simp only [op2, wp_bad] at h
    · cases rv.bl; cases rw'.int
      exact .inr (.inl ⟨_, _, rfl, rfl, h.at b (.int _) (fun _ z => by cases z)⟩)
    · cases rv.int; cases rw'.bl
      exact .inr (.inr ⟨_, _, rfl, rfl, h.at b (.int _) (fun _ z => by cases z)⟩)
    · cases rv.int; cases rw'.int
      exact .inl ⟨_, _, rfl, rfl, h.at b (.int _) (fun _ z => by cases z)⟩
  | mul =>
    cases d <;> cases e <;> simp only [op2, wp_bad] at h
    · obtain ⟨hc, h⟩ := wp_need h
      cases rv.int; cases rw'.int
      exact .inl ⟨_, _, rfl, rfl, .inl (of_decide_eq_true hc), Aft.at b h (.int _) (fun _ z => by cases z)⟩
    · obtain ⟨hc, h⟩ := wp_need h
      obtain ⟨a, xs, rfl, h1, r1⟩ := rv.list b
      cases rw'.int
      obtain ⟨c1, c2, c3⟩ := of_decide_eq_true hc
      exact .inr (.inl ⟨a, _, xs, rfl, rfl, h1, c1, c2, by rw [r1.len]; exact c3, fun p hp => Aft.newL b h (r1.rep _) hp⟩)
    · obtain ⟨hc, h⟩ := wp_need h
      obtain ⟨a, xs, rfl, h1, r1⟩ := rv.tuple b
      cases rw'.int
      obtain ⟨c1, c2, c3, c4⟩ := of_decide_eq_true hc
      exact .inr (.inr ⟨a, _, xs, rfl, rfl, h1, fun z => c1 (by rw [r1.nil_iff.mp z]; rfl), c2, c3, by rw [r1.len]; exact c4, fun p hp => Aft.newT b h (r1.rep _) hp⟩)
  | mod =>
    cases d <;> cases e <;> simp only [op2, wp_bad] at h
    obtain ⟨hc, h⟩ := wp_need h
    cases rv.int; cases rw'.int
    exact ⟨_, _, rfl, rfl, of_decide_eq_true hc, Aft.at b h (.int _) (fun _ z => by cases z)⟩
  | fdiv =>
    cases d <;> cases e <;> simp only [op2, wp_bad] at h
    obtain ⟨hc, h⟩ := wp_need h
    cases rv.int; cases rw'.int
    have hc := of_decide_eq_true hc
    exact ⟨_, _, rfl, rfl, hc, Aft.at b h (.int _) (fun _ z => by cases z)⟩
  | pow =>
    cases d <;> cases e <;> simp only [op2, wp_bad] at h
    obtain ⟨hc, h⟩ := wp_need h
    cases rv.int; cases rw'.int
    have hc := of_decide_eq_true hc
    exact ⟨_, _, rfl, rfl, hc, Aft.at b h (.int _) (fun _ z => by cases z)⟩
end

/-! ### comparisons -/
section
variable {X : Cx}
def rInT (K : PySem.W.Frag) : R2 := fun x y H Q => ∃ d ds, Dp K H x d ∧ Dp K H y (.tuple ds) ∧ SeqAt.shaped d = true ∧ SeqAt.shaped (.tuple ds) = true ∧ Q (.bl (ds.any fun z => PyData.eqv z d)) H
def rNotInT (K : PySem.W.Frag) : R2 := fun x y H Q => ∃ d ds, Dp K H x d ∧ Dp K H y (.tuple ds) ∧ SeqAt.shaped d = true ∧ SeqAt.shaped (.tuple ds) = true ∧ Q (.bl (!ds.any fun z => PyData.eqv z d)) H
theorem op_inT (hu : X.A.units + 65 < cLine) : OpR X (compareOp .In) (rInT X.K) := by
  intro ps s σ H x y v u Q I rx ry h
  obtain ⟨d, ds, hd, he, sd, se, q⟩ := h
  obtain ⟨as, r1⟩ := Dp.reads I d x v hd rx
  obtain ⟨bs, r2⟩ := Dp.reads I (.tuple ds) y u he ry
  exact SeqAt.in_tuple_reads r2 r1 (SeqAt.canLay_of_shaped se) (SeqAt.canLay_of_shaped sd) (room_in_shaped sd hu) ⟨.bl _, H, I, rfl, q⟩
theorem op_notInT (hu : X.A.units + 65 < cLine) : OpR X (compareOp .NotIn) (rNotInT X.K) := by
  intro ps s σ H x y v u Q I rx ry h
  obtain ⟨d, ds, hd, he, sd, se, q⟩ := h
  obtain ⟨as, r1⟩ := Dp.reads I d x v hd rx
  obtain ⟨bs, r2⟩ := Dp.reads I (.tuple ds) y u he ry
  exact SeqAt.notIn_tuple_reads r2 r1 (SeqAt.canLay_of_shaped se) (SeqAt.canLay_of_shaped sd) (room_in_shaped sd hu) ⟨.bl _, H, I, rfl, q⟩
end
def rSign (f : Bool → Bool) : R2 := fun x y H Q => ∃ c z, x = .str ⟨#[c]⟩ ∧ y = .str z ∧ Q (.bl (f (decide (c ∈ z.cps.toList)))) H
def rCm (K : PySem.W.Frag) : Cm → R2
  | .lt => R2or (rI0 fun i j => .bl (decide (i < j))) (fun x y H Q => ∃ i j, x = .str i ∧ y = .str j ∧ Q (.bl (decide (i.cps.toList < j.cps.toList))) H)
  | .le => rI0 fun i j => .bl (decide (i ≤ j))
  | .gt => rI0 fun i j => .bl (decide (j < i))
  | .ge => R2or (rI0 fun i j => .bl (decide (j ≤ i))) (fun x y H Q => ∃ i j, x = .str i ∧ y = .str j ∧ Q (.bl (!decide (i.cps.toList < j.cps.toList))) H)
  | .eq => R2or (rEqD K) rEq
  | .ne => R2or (rNeD K) rNe
  | .isin => R2or (rSign id) (R2or (rInD K) (rInT K))
  | .notin => R2or (rSign not) (R2or (rNotInD K) (rNotInT K))
theorem cm_rule {X : Cx} (hu : X.A.units + 65 < cLine) (o : Cm) : OpR X (compareOp (toCm o)) (rCm X.K o) := by
  cases o with
  | lt => exact OpR.or op_lt op_lt_str
  | le => exact op_le
  | gt => exact op_gt
  | ge => exact OpR.or op_ge op_ge_str
  | eq => exact OpR.or (op_eqD (Nat.lt_of_le_of_lt (Nat.add_le_add_left (by decide) _) hu)) op_eq
  | ne => exact OpR.or (op_neD (Nat.lt_of_le_of_lt (Nat.add_le_add_left (by decide) _) hu)) op_ne
  | isin => exact OpR.or op_in_sign (OpR.or (op_inD hu) (op_inT hu))
  | notin => exact OpR.or op_notIn_sign (OpR.or (op_notInD hu) (op_notInT hu))
theorem str_one {a : Str} (h : a.length = 1) : a = ⟨#[a.cps.toList.headD 0]⟩ := by
  obtain ⟨⟨l⟩⟩ := a
  match l, h with
  | [c], _ => rfl
section
variable {g : Gc} {fa : Option Addr} {H0 H : Hp} {v w : V} {d e : D} {Q : VK}
theorem Rv.dps (b : Bs g fa H0 H) (r : Rv g fa H0 H v d) (h : SeqAt.shaped d = true) : Dp g.K H v d := Rp.dps h (r.rp b)
theorem Aft.bl (b : Bs g fa H0 H) {k : Bool} (h : Aft g fa H0 H Q (.bool k)) : Q (.bl k) H := h.at b (.bl _) (fun _ z => by cases z)
theorem Aft.int (b : Bs g fa H0 H) {k : Int} (h : Aft g fa H0 H Q (.int k)) : Q (.int k) H := h.at b (.int _) (fun _ z => by cases z)
theorem Aft.str (b : Bs g fa H0 H) {k : Str} (h : Aft g fa H0 H Q (.str k)) : Q (.str k) H := h.at b (.str _) (fun _ z => by cases z)
theorem cm_in (b : Bs g fa H0 H) (f : Bool → Bool) (rv : Rv g fa H0 H v d) (rw' : Rv g fa H0 H w e)
    (h : WP (match d, e with
      | .str a, .str b => need (decide (a.length = 1)) (.ret (.bool (f (decide (a.cps.toList.headD 0 ∈ b.cps.toList)))))
      | a, .list b => need (SeqAt.shaped a && SeqAt.shaped (.list b)) (.ret (.bool (f (b.any fun z => PyData.eqv z a))))
      | a, .tuple b => need (SeqAt.shaped a && SeqAt.shaped (.tuple b)) (.ret (.bool (f (b.any fun z => PyData.eqv z a))))
      | _, _ => .bad) (Aft g fa H0 H Q)) :
    (∃ c z, v = .str ⟨#[c]⟩ ∧ w = .str z ∧ Q (.bl (f (decide (c ∈ z.cps.toList)))) H) ∨
    (∃ d ds, Dp g.K H v d ∧ Dp g.K H w (.list ds) ∧ SeqAt.shaped d = true ∧ SeqAt.shaped (.list ds) = true ∧ Q (.bl (f (ds.any fun z => PyData.eqv z d))) H) ∨
    (∃ d ds, Dp g.K H v d ∧ Dp g.K H w (.tuple ds) ∧ SeqAt.shaped d = true ∧ SeqAt.shaped (.tuple ds) = true ∧ Q (.bl (f (ds.any fun z => PyData.eqv z d))) H) := by
  have L : ∀ ds, e = .list ds → WP (need (SeqAt.shaped d && SeqAt.shaped (.list ds)) (.ret (.bool (f (ds.any fun z => PyData.eqv z d))))) (Aft g fa H0 H Q) →
    (∃ d ds, Dp g.K H v d ∧ Dp g.K H w (.list ds) ∧ SeqAt.shaped d = true ∧ SeqAt.shaped (.list ds) = true ∧ Q (.bl (f (ds.any fun z => PyData.eqv z d))) H) := fun ds he hh => by
    obtain ⟨hc, hh⟩ := wp_need hh
    rw [Bool.and_eq_true] at hc
    exact ⟨_, _, rv.dps b hc.1, he ▸ rw'.dps b (he ▸ hc.2), hc.1, hc.2, Aft.bl b hh⟩
  have T : ∀ ds, e = .tuple ds → WP (need (SeqAt.shaped d && SeqAt.shaped (.tuple ds)) (.ret (.bool (f (ds.any fun z => PyData.eqv z d))))) (Aft g fa H0 H Q) →
    (∃ d ds, Dp g.K H v d ∧ Dp g.K H w (.tuple ds) ∧ SeqAt.shaped d = true ∧ SeqAt.shaped (.tuple ds) = true ∧ Q (.bl (f (ds.any fun z => PyData.eqv z d))) H) := fun ds he hh => by
    obtain ⟨hc, hh⟩ := wp_need hh
    rw [Bool.and_eq_true] at hc
    exact ⟨_, _, rv.dps b hc.1, he ▸ rw'.dps b (he ▸ hc.2), hc.1, hc.2, Aft.bl b hh⟩
  cases e with
  | list ds => exact .inr (.inl (L ds rfl (by cases d <;> exact h)))
  | tuple ds => exact .inr (.inr (T ds rfl (by cases d <;> exact h)))
  | str z =>
    cases d with
    | str a =>
      obtain ⟨hc, h⟩ := wp_need h
      cases rw'.str
      have e1 := rv.str
      rw [str_one (of_decide_eq_true hc)] at e1
      exact .inl ⟨_, _, e1, rfl, Aft.bl b h⟩
    | _ => exact h.elim
  | _ => cases d <;> exact h.elim
theorem eqv_str (x y : Str) : PyData.eqv (.str x) (.str y) = (x == y) := by simp only [PyData.eqv]
theorem cm_ok (b : Bs g fa H0 H) (o : Cm) (rv : Rv g fa H0 H v d) (rw' : Rv g fa H0 H w e) (h : WP (cmp2 o d e) (Aft g fa H0 H Q)) : rCm g.K o v w H Q := by
  cases o with
  | lt =>
    cases d <;> cases e <;> simp only [cmp2, wp_bad] at h
    · cases rv.int; cases rw'.int
      exact .inl ⟨_, _, rfl, rfl, Aft.bl b h⟩
    · cases rv.str; cases rw'.str
      exact .inr ⟨_, _, rfl, rfl, Aft.bl b h⟩
  | le =>
    cases d <;> cases e <;> simp only [cmp2, wp_bad] at h
    cases rv.int; cases rw'.int
    exact ⟨_, _, rfl, rfl, Aft.bl b h⟩
  | gt =>
    cases d <;> cases e <;> simp only [cmp2, wp_bad] at h
    cases rv.int; cases rw'.int
    exact ⟨_, _, rfl, rfl, Aft.bl b h⟩
  | ge =>
    cases d <;> cases e <;> simp only [cmp2, wp_bad] at h
    · cases rv.int; cases rw'.int
      exact .inl ⟨_, _, rfl, rfl, Aft.bl b h⟩
    · cases rv.str; cases rw'.str
      exact .inr ⟨_, _, rfl, rfl, Aft.bl b h⟩
  | eq =>
    have h : WP (need (eqOk d e) (.ret (.bool (PyData.eqv d e)))) (Aft g fa H0 H Q) := by cases d <;> cases e <;> exact h
    obtain ⟨hc, h⟩ := wp_need h
    unfold eqOk at hc
    split at hc
    · cases rv.str; cases rw'.str
      refine .inr ⟨rfl, ?_⟩
      rw [dec_str]
      rw [eqv_str] at h
      exact Aft.bl b h
    · rw [Bool.and_eq_true] at hc
      exact .inl ⟨d, e, rv.dps b hc.1, rw'.dps b hc.2, hc.1, hc.2, Aft.bl b h⟩
  | ne =>
    have h : WP (need (eqOk d e) (.ret (.bool (!PyData.eqv d e)))) (Aft g fa H0 H Q) := by cases d <;> cases e <;> exact h
    obtain ⟨hc, h⟩ := wp_need h
    unfold eqOk at hc
    split at hc
    · cases rv.str; cases rw'.str
      refine .inr ⟨rfl, ?_⟩
      rw [dec_str]
      rw [eqv_str] at h
      exact Aft.bl b h
    · rw [Bool.and_eq_true] at hc
      exact .inl ⟨d, e, rv.dps b hc.1, rw'.dps b hc.2, hc.1, hc.2, Aft.bl b h⟩
  | isin => exact cm_in b id rv rw' (by cases d <;> cases e <;> exact h)
  | notin => exact cm_in b not rv rw' (by cases d <;> cases e <;> exact h)
end

/-! ### subscripts, slices, truth -/
section
variable {g : Gc} {fa : Option Addr} {H0 H : Hp} {v w : V} {d e : D} {Q : VK}
theorem RpAll.atI : ∀ {xs : List V} {ds : List D} {i : Int} {d : D}, RpAll g fa H0 xs ds → (ixAt ds.length i).bind (ds[·]?) = some d → ∃ v, L2.atI xs i = some v ∧ Rp g fa H0 v d := fun {xs ds i d} r h => by
  unfold L2.atI
  rw [r.len]
  cases e : L2.ixN ds.length i with
  | none => rw [show ixAt ds.length i = L2.ixN ds.length i from rfl, e] at h; cases h
  | some k =>
    rw [show ixAt ds.length i = L2.ixN ds.length i from rfl, e] at h
    exact r.get' h
theorem RpAll.cut {xs : List V} {ds : List D} (lo hi : Option Int) (r : RpAll g fa H0 xs ds) : RpAll g fa H0 (cutV xs lo hi) (cutD ds lo hi) := by
  unfold cutV cutD
  rw [r.len]
  exact (r.drop _).take _
def rIxD (K : PySem.W.Frag) : R2 := R2or (rIxL K) (rIxT K)
theorem ixR_or {X : Cx} {r s : R2} (h : IxR X r) (h' : IxR X s) : IxR X (R2or r s) := by
  intro a b c d e f i j k l m n n1 n2 n3 n4
  rcases n3 with n3 | n3
  · exact h a b c d e f i j k l m n n1 n2 n3 n4
  · exact h' a b c d e f i j k l m n n1 n2 n3 n4
theorem slR_or {X : Cx} {r s : V → Option Int → Option Int → Hp → VK → Prop} (h : SlR X r) (h' : SlR X s) : SlR X (fun x a b H Q => r x a b H Q ∨ s x a b H Q) := by
  intro a b c d e f i j k l m n o p q t u u1
  rcases u1 with u1 | u1
  · exact h a b c d e f i j k l m n o p q t u u1
  · exact h' a b c d e f i j k l m n o p q t u u1
theorem ix_ok (b : Bs g fa H0 H) (rv : Rv g fa H0 H v d) (rw' : Rv g fa H0 H w e) (h : WP (idx2 d e) fun r => ∀ v', Rp g fa H0 v' r → Q v' H) : rIxD g.K v w H Q := by
  cases d with
  | list ds =>
    cases e with
    | int i =>
      obtain ⟨a, xs, rfl, h1, r1⟩ := rv.list b
      cases rw'.int
      simp only [idx2] at h
      cases hi : (ixAt ds.length i).bind (ds[·]?) with
      | none => rw [hi] at h; exact h.elim
      | some z =>
        rw [hi] at h
        obtain ⟨u, hu, ru⟩ := r1.atI hi
        exact .inl ⟨a, xs, i, u, rfl, rfl, .inl (.inl h1), hu, h u ru⟩
    | _ => exact h.elim
  | tuple ds =>
    cases e with
    | int i =>
      obtain ⟨a, xs, rfl, h1, r1⟩ := rv.tuple b
      cases rw'.int
      simp only [idx2] at h
      cases hi : (ixAt ds.length i).bind (ds[·]?) with
      | none => rw [hi] at h; exact h.elim
      | some z =>
        rw [hi] at h
        obtain ⟨u, hu, ru⟩ := r1.atI hi
        exact .inr ⟨a, xs, i, u, rfl, rfl, h1, hu, h u ru⟩
    | _ => exact h.elim
  | _ => exact h.elim
def rSlD (K : PySem.W.Frag) : V → Option Int → Option Int → Hp → VK → Prop := fun x a b H Q => rSlL K x a b H Q ∨ rSlA K x a b H Q ∨ rSlS x a b H Q
theorem sl_rule {X : Cx} : SlR X (rSlD X.K) := slR_or sl_list (slR_or sl_tupA sl_str)
theorem cut_whole {ds : List D} {lo hi : Option Int} (h : HT.sIx ds.length 0 lo = 0 ∧ HT.sIx ds.length ds.length hi = ds.length) : cutD ds lo hi = ds := by
  unfold cutD slE
  rw [h.1, h.2, List.drop_zero, Nat.sub_zero, List.take_length]
theorem sl_ok (b : Bs g fa H0 H) (rv : Rv g fa H0 H v d) {lo hi : Option Int} (h : WP (sl2 d lo hi) (Aft g fa H0 H Q)) : rSlD g.K v lo hi H Q := by
  cases d with
  | list ds =>
    obtain ⟨a, xs, rfl, h1, r1⟩ := rv.list b
    exact .inl ⟨a, xs, rfl, .inl (.inl h1), fun p hp => Aft.newL b h (r1.cut lo hi) hp⟩
  | tuple ds =>
    have t := rv.data (fun _ z => by cases z)
    obtain ⟨a, xs, rfl, h1, r1⟩ := rv.tuple b
    refine .inr (.inl ⟨a, xs, rfl, h1, fun z => ?_, fun z p hp => Aft.newT b h (r1.cut lo hi) hp⟩)
    rw [r1.len] at z
    have h : Aft g fa H0 H Q (.tuple (cutD ds lo hi)) := h
    rw [cut_whole z] at h
    exact h.at b t (fun _ z => by cases z)
  | str z =>
    obtain ⟨hc, h⟩ := wp_need h
    cases rv.str
    exact .inr (.inr ⟨z, rfl, of_decide_eq_true hc, Aft.str b h⟩)
  | _ => exact h.elim
theorem truV_ok (b : Bs g fa H0 H) (rv : Rv g fa H0 H v d) {Q : Bool → Prop} (h : WP (truD d) Q) : ∃ k, TruV g.K v H k ∧ Q k := by
  cases d with
  | none => cases rv.non; exact ⟨_, rfl, h⟩
  | bool k => cases rv.bl; exact ⟨_, rfl, h⟩
  | int k => cases rv.int; exact ⟨_, rfl, h⟩
  | str k =>
    obtain ⟨hc, h⟩ := wp_need h
    cases rv.str
    have e1 : ((k.length : Int) != 0) = (k.length != 0) := by rw [Bool.eq_iff_iff]; simp
    exact ⟨_, ⟨of_decide_eq_true hc, rfl⟩, by rw [e1]; exact h⟩
  | list ds =>
    obtain ⟨a, xs, rfl, h1, r1⟩ := rv.list b
    refine ⟨_, .inl ⟨xs, .inl (.inl h1), rfl⟩, ?_⟩
    have : xs.isEmpty = ds.isEmpty := by cases r1 <;> rfl
    rw [this]; exact h
  | tuple ds =>
    obtain ⟨a, xs, rfl, h1, r1⟩ := rv.tuple b
    refine ⟨_, .inr (.inl ⟨xs, h1, rfl⟩), ?_⟩
    have : xs.isEmpty = ds.isEmpty := by cases r1 <;> rfl
    rw [this]; exact h
  | dict k => exact h.elim
end
end Pf
/-! PfE: built-in functions by data. -/
namespace Pf
open PySem PySem.Spec PyProof.Rows L2

def biVal : Bi → Value
  | .len => .builtin "len"
  | .lst => .type "list"
  | .tup => .type "tuple"
  | .srt => .builtin "sorted"
  | .all => .builtin "all"
  | .any => .builtin "any"
  | .ord => .builtin "ord"
  | .str => .type "str"
  | .int => .type "int"
  | .repr => .builtin "repr"
def biName : Bi → Str
  | .len => "len"
  | .lst => "list"
  | .tup => "tuple"
  | .srt => "sorted"
  | .all => "all"
  | .any => "any"
  | .ord => "ord"
  | .str => "str"
  | .int => "int"
  | .repr => "repr"
abbrev RC := List V → Hp → VK → Prop
abbrev RCor (r s : RC) : RC := fun x H Q => r x H Q ∨ s x H Q
theorem CallR.or {X : Cx} {f : Value} {r s : RC} (h : CallR X f r) (h' : CallR X f s) : CallR X f (RCor r s) := by
  intro a b c d e f i j k l
  rcases l with l | l
  · exact h a b c d e f i j k l
  · exact h' a b c d e f i j k l
def rRepr (K : PySem.W.Frag) : RC := fun xs H Q => ∃ v d, xs = [v] ∧ Dp K H v d ∧ d.showable = true ∧ SeqAt.shaped d = true ∧ d.shown.length ≤ sizeLine ∧ Q (.str d.shown) H
theorem call_reprD {X : Cx} (hg : X.A.guards = some []) (hu : X.A.units + 66 < cLine) : CallR X (.builtin "repr") (rRepr X.K) := by
  intro ps s σ H xs us Q I r h
  obtain ⟨v, d, rfl, hd, h1, h2, h3, q⟩ := h
  obtain ⟨u, rfl, ru⟩ := vals1 r
  obtain ⟨as, rd⟩ := Dp.reads I d v u hd ru
  have hdep : d.depth ≤ 64 := by
    unfold SeqAt.shaped at h2
    simp only [Bool.and_eq_true, decide_eq_true_eq] at h2
    exact h2.2
  have fin : ∀ (h' : Heap) (t : Tok) (tk : Nat), (∀ b o, s.heap.get? b = some o → h'.get? b = some o) → EP X ps σ Q (.str d.shown t) { s with heap := h', toks := tk } := fun h' t tk k =>
    ⟨.str d.shown, H, I.kept (t' := tk) k, ⟨t, rfl⟩, q⟩
  cases hd with
  | non => cases ru; exact P.repr_of_none (fin s.heap _ _ fun _ _ e => e)
  | bl b => cases ru; exact P.repr_of_bool (fin s.heap _ _ fun _ _ e => e)
  | int i =>
    obtain ⟨t, rfl⟩ := ru
    exact P.repr_of_int (by simpa [PyData.showable] using h1) (fin s.heap _ _ fun _ _ e => e)
  | str x =>
    obtain ⟨t, rfl⟩ := ru
    exact P.repr_of_str (fin s.heap _ _ fun _ _ e => e) h3
  | lst hs ha =>
    cases ru
    exact repr_of_reads' rd h1 (PyData.noDict_hsm (PyData.hasDict_of_canLay _ (SeqAt.canLay_of_shaped h2))) hg (by omega) (fun _ _ e => e) (fun h' t tk k => fin h' t tk k) h3
  | tup hs ha =>
    cases ru
    exact repr_of_reads' rd h1 (PyData.noDict_hsm (PyData.hasDict_of_canLay _ (SeqAt.canLay_of_shaped h2))) hg (by omega) (fun _ _ e => e) (fun h' t tk k => fin h' t tk k) h3
theorem call_str_bl {X : Cx} : CallR X (.type "str") (fun xs H Q => ∃ k : Bool, xs = [V.bl k] ∧ Q (V.str (if k = true then "True" else "False")) H) := by
  intro pins s σ H xs us Q I r h
  obtain ⟨k, rfl, q⟩ := h
  obtain ⟨u, rfl, r1⟩ := vals1 r
  cases r1
  exact PySem.P.str_of_bool ⟨.str _, H, I.tok _, ⟨_, by cases k <;> rfl⟩, q⟩
def rBi (K : PySem.W.Frag) : Bi → RC
  | .len => RCor (fun xs H Q => ∃ p ys, xs = [V.ref p] ∧ (SqL K H p ys ∨ SqT K H p ys) ∧ Q (V.int ys.length) H) (fun xs H Q => ∃ z : Str, xs = [V.str z] ∧ z.length ≤ sizeLine ∧ Q (V.int z.length) H)
  | .lst => fun xs H Q => ∃ p ys, xs = [V.ref p] ∧ (SqL K H p ys ∨ SqT K H p ys) ∧ ∀ l : Addr, H l = none → Q (V.ref l) (upd H l (HO.lst ys))
  | .tup => fun xs H Q => ∃ p ys, xs = [V.ref p] ∧ ((SqL K H p ys ∧ ∀ l : Addr, H l = none → Q (V.ref l) (upd H l (HO.tup ys))) ∨ SqT K H p ys ∧ Q (V.ref p) H)
  | .srt => rSortedI K
  | .all => rAll K
  | .any => rAny K
  | .ord => fun xs H Q => ∃ x : Str, xs = [V.str x] ∧ x.length = 1 ∧ Q (V.int (x.cps.getD 0 0 : Nat)) H
  | .str => RCor (fun xs H Q => ∃ i : Int, xs = [V.int i] ∧ i.natAbs.log2 < 1920 ∧ Q (V.str (toString i)) H) (fun xs H Q => ∃ k : Bool, xs = [V.bl k] ∧ Q (V.str (if k = true then "True" else "False")) H)
  | .int => fun xs H Q => (∃ i, xs = [V.int i] ∧ Q (V.int i) H) ∨ ∃ k, xs = [V.bl k] ∧ Q (V.int (if k = true then 1 else 0)) H
  | .repr => rRepr K
theorem bi_rule {X : Cx} (hc : X.calm = true) (hg : X.A.guards = some []) (hu : X.A.units + 66 < cLine) (b : Bi) : CallR X (biVal b) (rBi X.K b) := by
  cases b with
  | len => exact CallR.or call_len_seq call_len_str
  | lst => exact call_list_of
  | tup => exact call_tuple_of
  | srt => exact cr_sortedI
  | all => exact cr_all hc
  | any => exact cr_any hc
  | ord => exact call_ord
  | str => exact CallR.or call_str_int call_str_bl
  | int => exact call_int1
  | repr => exact call_reprD hg hu

section
variable {g : Gc} {fa : Option Addr} {H0 H : Hp} {v : V} {d : D} {Q : VK}
theorem RpAll.bools : ∀ {xs : List V} {ds : List D} {bs : List Bool}, RpAll g fa H0 xs ds → boolsOf ds = some bs → xs = bs.map V.bl
  | _, _, bs, .nil, h => by
    have e : bs = [] := by simpa [boolsOf] using h.symm
    subst e; rfl
  | _, _, bs, .cons (d := d) (ds := ds) r t, h => by
    cases d with
    | bool b =>
      simp only [boolsOf] at h
      cases e : boolsOf ds with
      | none => rw [e] at h; cases h
      | some cs =>
        rw [e] at h
        have e2 : bs = b :: cs := by simpa using h.symm
        subst e2
        cases r
        rw [RpAll.bools t e]; rfl
    | _ => simp [boolsOf] at h
theorem RpAll.nums : ∀ {xs : List V} {ds : List D} {bs : List Int}, RpAll g fa H0 xs ds → intsOf ds = some bs → xs = bs.map V.int
  | _, _, bs, .nil, h => by
    have e : bs = [] := by simpa [intsOf] using h.symm
    subst e; rfl
  | _, _, bs, .cons (d := d) (ds := ds) r t, h => by
    cases d with
    | int b =>
      simp only [intsOf] at h
      cases e : intsOf ds with
      | none => rw [e] at h; cases h
      | some cs =>
        rw [e] at h
        have e2 : bs = b :: cs := by simpa using h.symm
        subst e2
        cases r
        rw [RpAll.nums t e]; rfl
    | _ => simp [intsOf] at h
theorem rpAll_ints : ∀ ns : List Int, RpAll g fa H0 (ns.map V.int) (ns.map PyData.int)
  | [] => .nil
  | n :: ns => .cons (.int n) (rpAll_ints ns)
theorem insI_perm (x : Int) : ∀ l : List Int, (insI x l).Perm (x :: l)
  | [] => .refl _
  | y :: r => by
    unfold insI
    split
    · exact .refl _
    · exact ((insI_perm x r).cons y).trans (.swap x y r)
theorem sortI_perm : ∀ l : List Int, (sortI l).Perm l
  | [] => .refl _
  | x :: r => (insI_perm x _).trans ((sortI_perm r).cons x)
theorem insI_mem {x z : Int} {l : List Int} (h : z ∈ insI x l) : z = x ∨ z ∈ l := by
  have := (insI_perm x l).mem_iff.mp h
  simpa using this
theorem insI_sorted (x : Int) : ∀ l : List Int, l.Pairwise (· ≤ ·) → (insI x l).Pairwise (· ≤ ·)
  | [], _ => by unfold insI; simp
  | y :: r, h => by
    unfold insI
    rw [List.pairwise_cons] at h
    split
    · rename_i hxy
      refine List.pairwise_cons.mpr ⟨fun z hz => ?_, List.pairwise_cons.mpr h⟩
      rcases List.mem_cons.mp hz with rfl | hz
      · exact hxy
      · exact Int.le_trans hxy (h.1 z hz)
    · rename_i hxy
      refine List.pairwise_cons.mpr ⟨fun z hz => ?_, insI_sorted x r h.2⟩
      rcases insI_mem hz with rfl | hz
      · omega
      · exact h.1 z hz
theorem sortI_sorted : ∀ l : List Int, (sortI l).Pairwise (· ≤ ·)
  | [] => .nil
  | x :: r => insI_sorted x _ (sortI_sorted r)
theorem sorted_unique : ∀ {a b : List Int}, a.Perm b → a.Pairwise (· ≤ ·) → b.Pairwise (· ≤ ·) → a = b
  | [], b, p, _, _ => (List.Perm.nil_eq p)
  | x :: a, [], p, _, _ => by simpa using p.length_eq
  | x :: a, y :: b, p, ha, hb => by
    rw [List.pairwise_cons] at ha hb
    have hx : x = y := by
      have h1 : x ∈ y :: b := p.mem_iff.mp List.mem_cons_self
      have h2 : y ∈ x :: a := p.mem_iff.mpr List.mem_cons_self
      rcases List.mem_cons.mp h1 with h1 | h1
      · exact h1
      · rcases List.mem_cons.mp h2 with h2 | h2
        · exact h2.symm
        · have := hb.1 x h1
          have := ha.1 y h2
          omega
    subst hx
    rw [sorted_unique ((List.perm_cons x).mp p) ha.2 hb.2]
theorem bi_ok (b : Bs g fa H0 H) (o : Bi) (rv : Rv g fa H0 H v d) (h : WP (bi1 o d) (Aft g fa H0 H Q)) : rBi g.K o [v] H Q := by
  cases o with
  | len =>
    cases d with
    | list ds =>
      obtain ⟨a, xs, rfl, h1, r1⟩ := rv.list b
      exact .inl ⟨a, xs, rfl, .inl (.inl (.inl h1)), by rw [r1.len]; exact Aft.int b h⟩
    | tuple ds =>
      obtain ⟨a, xs, rfl, h1, r1⟩ := rv.tuple b
      exact .inl ⟨a, xs, rfl, .inr h1, by rw [r1.len]; exact Aft.int b h⟩
    | str z =>
      obtain ⟨hc, h⟩ := wp_need h
      cases rv.str
      exact .inr ⟨z, rfl, of_decide_eq_true hc, Aft.int b h⟩
    | _ => exact h.elim
  | lst =>
    cases d with
    | list ds =>
      obtain ⟨a, xs, rfl, h1, r1⟩ := rv.list b
      exact ⟨a, xs, rfl, .inl (.inl (.inl h1)), fun l hl => Aft.newL b h r1 hl⟩
    | tuple ds =>
      obtain ⟨a, xs, rfl, h1, r1⟩ := rv.tuple b
      exact ⟨a, xs, rfl, .inr h1, fun l hl => Aft.newL b h r1 hl⟩
    | _ => exact h.elim
  | tup =>
    cases d with
    | list ds =>
      obtain ⟨a, xs, rfl, h1, r1⟩ := rv.list b
      exact ⟨a, xs, rfl, .inl ⟨.inl (.inl h1), fun l hl => Aft.newT b h r1 hl⟩⟩
    | tuple ds =>
      have t := rv.data (fun _ z => by cases z)
      obtain ⟨a, xs, rfl, h1, r1⟩ := rv.tuple b
      exact ⟨a, xs, rfl, .inr ⟨h1, Aft.at b h t (fun _ z => by cases z)⟩⟩
    | _ => exact h.elim
  | srt =>
    cases d with
    | list ds =>
      obtain ⟨a, xs, rfl, h1, r1⟩ := rv.list b
      simp only [bi1] at h
      cases e : intsOf ds with
      | none => rw [e] at h; exact h.elim
      | some ns =>
        rw [e] at h
        have ex := r1.nums e
        subst ex
        refine ⟨a, ns, rfl, .inl (.inl h1), fun ns' p pm so hp => ?_⟩
        have es : ns' = sortI ns := sorted_unique (pm.trans (sortI_perm ns).symm) so (sortI_sorted ns)
        subst es
        exact Aft.newL b h (rpAll_ints _) hp
    | _ => exact h.elim
  | all =>
    cases d with
    | list ds =>
      obtain ⟨a, xs, rfl, h1, r1⟩ := rv.list b
      simp only [bi1] at h
      cases e : boolsOf ds with
      | none => rw [e] at h; exact h.elim
      | some bs =>
        rw [e] at h
        have ex := r1.bools e
        subst ex
        exact ⟨a, bs, rfl, .inl (.inl h1), Aft.bl b h⟩
    | _ => exact h.elim
  | any =>
    cases d with
    | list ds =>
      obtain ⟨a, xs, rfl, h1, r1⟩ := rv.list b
      simp only [bi1] at h
      cases e : boolsOf ds with
      | none => rw [e] at h; exact h.elim
      | some bs =>
        rw [e] at h
        have ex := r1.bools e
        subst ex
        exact ⟨a, bs, rfl, .inl (.inl h1), Aft.bl b h⟩
    | _ => exact h.elim
  | ord =>
    cases d with
    | str z =>
      obtain ⟨hc, h⟩ := wp_need h
      cases rv.str
      have hc := of_decide_eq_true hc
      refine ⟨z, rfl, hc, ?_⟩
      have e : z.cps.getD 0 0 = z.cps.toList.headD 0 := by
        rw [str_one hc]; rfl
      rw [e]
      exact Aft.int b h
    | _ => exact h.elim
  | str =>
    cases d with
    | int i =>
      obtain ⟨hc, h⟩ := wp_need h
      cases rv.int
      exact .inl ⟨i, rfl, of_decide_eq_true hc, Aft.str b h⟩
    | bool k =>
      cases rv.bl
      exact .inr ⟨k, rfl, Aft.str b h⟩
    | _ => exact h.elim
  | int =>
    cases d with
    | int i =>
      cases rv.int
      exact .inl ⟨i, rfl, Aft.int b h⟩
    | bool k =>
      cases rv.bl
      exact .inr ⟨k, rfl, by cases k <;> exact Aft.int b h⟩
    | _ => exact h.elim
  | repr =>
    have h : WP (need (d.showable && SeqAt.shaped d && decide (d.shown.length ≤ sizeLine)) (.ret (.str d.shown))) (Aft g fa H0 H Q) := by cases d <;> exact h
    obtain ⟨hc, h⟩ := wp_need h
    simp only [Bool.and_eq_true, decide_eq_true_eq] at hc
    exact ⟨v, d, rfl, rv.dps b hc.1.2, hc.1.1, hc.1.2, hc.2, Aft.str b h⟩

/-! ### isinstance -/
def tyName : Ty → String
  | .int => "int"
  | .bool => "bool"
  | .str => "str"
  | .tup => "tuple"
  | .lst => "list"
theorem kitT (t : Ty) : kitB "NoneType" (tyName t) = some (isTy t .none) ∧ kitB "bool" (tyName t) = some (isTy t (.bool true)) ∧ kitB "int" (tyName t) = some (isTy t (.int 0)) ∧ kitB "str" (tyName t) = some (isTy t (.str Str.empty)) ∧ kitB "list" (tyName t) = some (isTy t (.list [])) ∧ kitB "tuple" (tyName t) = some (isTy t (.tuple [])) := by
  cases t <;> decide +kernel
theorem sqT_ty {a : Addr} {xs : List V} (h : SqT g.K H a xs) : TyX g.K H (.ref a) (.type "tuple") := by
  rcases h with (h | ⟨o, h⟩) | ⟨o, its, n, h1, h2, h3⟩
  · exact .base (.tup h)
  · exact .fTuple h
  · exact .kTuple h1 h2
theorem isi_ok (b : Bs g fa H0 H) (t : Ty) (rv : Rv g fa H0 H v d) (hp : plainD d = true) (h : Aft g fa H0 H Q (.bool (isTy t d))) : rIsi g.K [v, .ty (tyName t)] H Q := by
  have q := Aft.bl b h
  cases d with
  | none => cases rv.non; exact ⟨_, _, _, _, _, rfl, .ty _, .base .non, kit_ty (kitT t).1, q⟩
  | bool k => cases rv.bl; exact ⟨_, _, _, _, _, rfl, .ty _, .base (.bl k), kit_ty ((kitT t).2.1.trans (by cases t <;> rfl)), q⟩
  | int k => cases rv.int; exact ⟨_, _, _, _, _, rfl, .ty _, .base (.int k), kit_ty ((kitT t).2.2.1.trans (by cases t <;> rfl)), q⟩
  | str k => cases rv.str; exact ⟨_, _, _, _, _, rfl, .ty _, .base (.str k), kit_ty ((kitT t).2.2.2.1.trans (by cases t <;> rfl)), q⟩
  | list ds =>
    obtain ⟨a, xs, rfl, h1, r1⟩ := rv.list b
    exact ⟨_, _, _, _, _, rfl, .ty _, .base (.lst h1), kit_ty ((kitT t).2.2.2.2.1.trans (by cases t <;> rfl)), q⟩
  | tuple ds =>
    obtain ⟨a, xs, rfl, h1, r1⟩ := rv.tuple b
    exact ⟨_, _, _, _, _, rfl, .ty _, sqT_ty h1, kit_ty ((kitT t).2.2.2.2.2.trans (by cases t <;> rfl)), q⟩
  | dict k => cases hp
end
end Pf
/-! PfF: expressions by data: the judgements and their rules. -/
namespace Pf
open PySem PySem.Spec PyProof.Rows L2

def tG (g : Gc) (fa : Option Addr) (m : Md) (f : Ev → M D) : TE := fun σ H Q =>
  ∃ H0 ρ, RepS g fa H0 H σ ρ ∧ WP (f ρ) fun d => ∀ v H0' H', Ext g fa H0 H H0' H' → Rel g fa m H H0' H' v d → Q v H'
def tB1 (g : Gc) (fa : Option Addr) (f : Ev → M Bool) : TT := fun σ H Q =>
  ∃ H0 ρ, RepS g fa H0 H σ ρ ∧ WP (f ρ) fun k => ∀ H0' H', Ext g fa H0 H H0' H' → Q k H'
def tArg (g : Gc) (fa : Option Addr) (f : Ev → M D) : TA := fun σ H Q =>
  ∃ H0 ρ, RepS g fa H0 H σ ρ ∧ WP (f ρ) fun d => ∀ vs ds H0' H', d = .list ds → Ext g fa H0 H H0' H' → RpAll g fa H0' vs ds → Q vs H'
def tOpt (g : Gc) (fa : Option Addr) (f : Ev → M (Option Int)) : TO := fun σ H Q =>
  ∃ H0 ρ, RepS g fa H0 H σ ρ ∧ WP (f ρ) fun k => ∀ H0' H', Ext g fa H0 H H0' H' → Q k H'

theorem pe_imp {X : Cx} {e : Expr} {t t' : TE} (h : PE X e t) (i : ∀ σ H Q, t' σ H Q → t σ H Q) : PE X e t' := ⟨fun ps s σ H Q I q => h.run ps s σ H Q I (i σ H Q q)⟩
theorem pt_imp {X : Cx} {e : Expr} {t t' : TT} (h : PT X e t) (i : ∀ σ H Q, t' σ H Q → t σ H Q) : PT X e t' := ⟨fun ps s σ H Q I q => h.run ps s σ H Q I (i σ H Q q)⟩
theorem pw_imp {X : Cx} {e : Expr} {t t' : TT} (h : PW X e t) (i : ∀ σ H Q, t' σ H Q → t σ H Q) : PW X e t' := ⟨fun wh ps s σ H Q I q => h.run wh ps s σ H Q I (i σ H Q q)⟩
theorem pa_imp {X : Cx} {e : List Expr} {t t' : TA} (h : PA X e t) (i : ∀ σ H Q, t' σ H Q → t σ H Q) : PA X e t' := ⟨fun p ps s σ H Q I q => h.run p ps s σ H Q I (i σ H Q q)⟩
theorem po_imp {X : Cx} {e : Option Expr} {t t' : TO} (h : PO X e t) (i : ∀ σ H Q, t' σ H Q → t σ H Q) : PO X e t' := ⟨fun ps s σ H Q I q => h.run ps s σ H Q I (i σ H Q q)⟩

section
variable {X : Cx} {g : Gc} {fa : Option Addr} {E E1 E2 E3 : Expr} {f f1 f2 f3 : Ev → M D} {b1 : Ev → M Bool} {pos : Pos}
theorem tG_eq {m : Md} {f' : Ev → M D} (e : ∀ ρ, f ρ = f' ρ) (h : PE X E (tG g fa m f)) : PE X E (tG g fa m f') := by
  have : f = f' := funext e
  rw [← this]; exact h
theorem p_of_f (h : PE X E (tG g fa .f f)) : PE X E (tG g fa .p f) := pe_imp h fun σ H Q ⟨H0, ρ, R, w⟩ => ⟨H0, ρ, R, w.mono fun d q v H0' H' x r => by
  obtain ⟨H0'', x2, _, r2⟩ := Rel.data (Hs := H) x r
  exact q v H0'' H' x2 r2⟩
theorem v_of_p (h : PE X E (tG g fa .p f)) : PE X E (tG g fa .v f) := pe_imp h fun σ H Q ⟨H0, ρ, R, w⟩ => ⟨H0, ρ, R, w.mono fun d q v H0' H' x r => q v H0' H' x (.inl r)⟩
/-- a value at once -/
theorem now {m : Md} {σ : L2.St} {H H0 : Hp} {ρ : Ev} {Q : VK} {v : V} {d : D} (R : RepS g fa H0 H σ ρ) (r : Rp g fa H0 v d) (hd : m ≠ .f ∨ ∀ ds, d ≠ .list ds)
    (q : ∀ v H0' H', Ext g fa H0 H H0' H' → Rel g fa m H H0' H' v d → Q v H') : Q v H := q v H0 H (Ext.refl R.bs) (Rel.p hd r)

/-! names, constants -/
theorem gs_ok {ρ : Ev} {i : Nat} {Q : D → Prop} (w : WP (gs ρ i) Q) : ∃ d, ρ[i]? = some (some (.dat d)) ∧ Q d := by
  unfold gs at w
  split at w
  · exact ⟨_, by assumption, w⟩
  · exact w.elim
theorem gr_ok {ρ : Ev} {i : Nat} {Q : D → Prop} (w : WP (gr ρ i) Q) : ∃ sv, ρ[i]? = some (some sv) ∧ Q sv.d := by
  unfold gr at w
  split at w
  · exact ⟨_, by assumption, w⟩
  · exact w.elim
theorem go_ok {ρ : Ev} {i : Nat} {Q : List D → Prop} (w : WP (go ρ i) Q) : ∃ ds, ρ[i]? = some (some (.own (.list ds))) ∧ Q ds := by
  unfold go at w
  split at w
  · exact ⟨_, by assumption, w⟩
  · exact w.elim
theorem s_var {i : Nat} {x : Str} (hN : X.N[i]? = some x) (hv : Vis X.env.scope x) (h1 : (x == ("__debug__" : Str)) = false) (h2 : (x == ("__classdict__" : Str)) = false) : PE X (.Name x pos) (tG g fa .p fun ρ => gs ρ i) :=
  pe_imp (pe_var hN hv h1 h2) fun σ H Q ⟨H0, ρ, R, w⟩ => by
    obtain ⟨d, e, w⟩ := gs_ok w
    obtain ⟨v, hv, s⟩ := R.slot i _ e
    exact ⟨v, hv, now R s (.inl (by intro z; cases z)) w⟩
theorem RepS.look {H0 H : Hp} {σ : L2.St} {ρ : Ev} (R : RepS g fa H0 H σ ρ) {i : Nat} {sv : SV} (e : ρ[i]? = some (some sv)) : ∃ v, σ[i]? = some (some v) ∧ Rv g fa H0 H v sv.d := by
  obtain ⟨v, hv, s⟩ := R.slot i _ e
  refine ⟨v, hv, ?_⟩
  cases sv with
  | dat d => exact .inl s
  | own d => exact .inr s
  | bor d =>
    rcases s with s | ⟨j, h1, h2⟩
    · exact .inl s
    · obtain ⟨v', hv', s'⟩ := R.slot j _ h2
      rw [h1] at hv'
      cases hv'
      exact .inr s'
theorem s_varR {i : Nat} {x : Str} (hN : X.N[i]? = some x) (hv : Vis X.env.scope x) (h1 : (x == ("__debug__" : Str)) = false) (h2 : (x == ("__classdict__" : Str)) = false) : PE X (.Name x pos) (tG g fa .v fun ρ => gr ρ i) :=
  pe_imp (pe_var hN hv h1 h2) fun σ H Q ⟨H0, ρ, R, w⟩ => by
    obtain ⟨sv, e, w⟩ := gr_ok w
    obtain ⟨v, hv, s⟩ := R.look e
    exact ⟨v, hv, w v H0 H (Ext.refl R.bs) s⟩
theorem s_const {v : V} {d : D} (h : PE X E (tC v)) (r : ∀ H, Rp g fa H v d) (hd : ∀ ds, d ≠ .list ds) {m : Md} : PE X E (tG g fa m fun _ => .ret d) :=
  pe_imp h fun σ H Q ⟨H0, ρ, R, w⟩ => now R (r H0) (.inr hd) w

/-! two operands -/
theorem two {r : R2} {k : D → D → M D} (h1 : PE X E1 (tG g fa .v f1)) (h2 : PE X E2 (tG g fa .v f2)) {t : Expr} (hp : ∀ ta tb, PE X E1 ta → PE X E2 tb → PE X t (tOp r ta tb))
    (hk : ∀ {H0 H : Hp} {v w : V} {d e : D} {Q : VK}, Bs g fa H0 H → Rv g fa H0 H v d → Rv g fa H0 H w e → WP (k d e) (Aft g fa H0 H Q) → r v w H Q) :
    PE X t (tG g fa .f fun ρ => (f1 ρ).bind fun x => (f2 ρ).bind fun y => k x y) :=
  pe_imp (hp _ _ h1 h2) fun σ H Q ⟨H0, ρ, R, w⟩ => ⟨H0, ρ, R, (WP.bind.mp w).mono fun d w v H1' H1 x1 r1 => ⟨H1', ρ, R.ext x1, (WP.bind.mp w).mono fun e w u H2' H2 x2 r2 => by
    refine hk x2.bs (Rv.ext r1 x1.bs x2) r2 (w.mono fun z q v' H0' H' x3 r3 => q v' H0' H' ((x1.trans x2).trans x3) ?_)
    cases z with
    | list ds =>
      obtain ⟨a, rfl, hs, o⟩ := r3
      exact ⟨a, rfl, (x1.trans x2).free R.bs hs, o⟩
    | _ => exact r3⟩⟩
theorem s_bin (o : Op2) (hK : X.K = g.K) (h1 : PE X E1 (tG g fa .v f1)) (h2 : PE X E2 (tG g fa .v f2)) : PE X (.BinOp E1 (toOp o) E2 pos) (tG g fa .f fun ρ => (f1 ρ).bind fun x => (f2 ρ).bind fun y => op2 o x y) :=
  two (r := rOp2 g.K o) h1 h2 (fun _ _ a b => pe_op (hK ▸ op2_rule o) a b) fun b r1 r2 w => op2_ok b o r1 r2 w
theorem s_cmp (o : Cm) (hK : X.K = g.K) (hu : X.A.units + 65 < cLine) (hm : behindInMarks (toCm o) E2 = false) (h1 : PE X E1 (tG g fa .v f1)) (h2 : PE X E2 (tG g fa .v f2)) : PE X (.Compare E1 [toCm o] [E2] pos) (tG g fa .f fun ρ => (f1 ρ).bind fun x => (f2 ρ).bind fun y => cmp2 o x y) :=
  two (r := rCm g.K o) h1 h2 (fun _ _ a b => pe_cmpR (hK ▸ cm_rule hu o) a b hm) fun b r1 r2 w => cm_ok b o r1 r2 w
theorem Aft.of_ext {H0 H H0' H' : Hp} {Q : VK} {d : D} (b : Bs g fa H0 H) (x : Ext g fa H0 H H0' H') (q : ∀ v' H0'' H'', Ext g fa H0 H H0'' H'' → Rel g fa .f H H0'' H'' v' d → Q v' H'') : Aft g fa H0' H' Q d := fun v' H0'' H'' x3 r3 => q v' H0'' H'' (x.trans x3) (by
    cases d with
    | list ds =>
      obtain ⟨a, rfl, hs, o⟩ := r3
      exact ⟨a, rfl, x.free b hs, o⟩
    | _ => exact r3)
theorem s_chain (o o' : Cm) (hK : X.K = g.K) (hu : X.A.units + 65 < cLine) (hm : lastMarks [toCm o, toCm o'] [E2, E3] = false) (h1 : PE X E1 (tG g fa .v f1)) (h2 : PE X E2 (tG g fa .v f2)) (h3 : PE X E3 (tG g fa .v f3)) :
    PE X (.Compare E1 [toCm o, toCm o'] [E2, E3] pos) (tG g fa .f fun ρ => (f1 ρ).bind fun x => (f2 ρ).bind fun y => (cmp2 o x y).bind fun r => (boolD r).bind fun k => if k = true then (f3 ρ).bind fun z => cmp2 o' y z else .ret (.bool false)) := by
  have e1 : OpR X (compareOp (toCm o)) (rCm g.K o) := hK ▸ cm_rule hu o
  have e2 : OpR X (compareOp (toCm o')) (rCm g.K o') := hK ▸ cm_rule hu o'
  refine pe_imp (pe_chain e1 e2 h1 h2 h3 hm) fun σ H Q ⟨H0, ρ, R, w⟩ => ⟨H0, ρ, R, (WP.bind.mp w).mono fun d w v H1' H1 x1 r1 => ⟨H1', ρ, R.ext x1, (WP.bind.mp w).mono fun e w u H2' H2 x2 r2 => ?_⟩⟩
  refine cm_ok x2.bs o (Rv.ext r1 x1.bs x2) r2 ((WP.bind.mp w).mono fun z q v' H3' H3 x3 r3 => ?_)
  cases z with
  | bool k =>
    have r3 : Rp g fa H3' v' (.bool k) := r3
    cases r3
    refine ⟨k, rfl, ?_⟩
    have q : WP (if k = true then (f3 ρ).bind fun z => cmp2 o' e z else .ret (.bool false)) _ := q
    have x13 := (x1.trans x2).trans x3
    cases k with
    | true =>
      rw [if_pos rfl] at q ⊢
      refine ⟨H3', ρ, R.ext x13, (WP.bind.mp q).mono fun z q w H4' H4 x4 r4 => ?_⟩
      exact cm_ok x4.bs o' (Rv.ext (Rv.ext r2 x2.bs x3) x3.bs x4) r4 (q.mono fun d q => Aft.of_ext R.bs (x13.trans x4) q)
    | false =>
      rw [if_neg (by intro z; cases z)] at q ⊢
      exact q _ H3' H3 x13 (Rp.bl false)
  | _ => exact q.elim
end
end Pf
/-! PfG: more expressions. -/
namespace Pf
open PySem PySem.Spec PyProof.Rows L2
section
variable {X : Cx} {g : Gc} {fa : Option Addr} {E E1 E2 E3 : Expr} {f f1 f2 f3 : Ev → M D} {b1 b2 : Ev → M Bool} {pos : Pos}

theorem intD_ok {d : D} {Q : Int → Prop} (w : WP (intD d) Q) : ∃ i, d = .int i ∧ Q i := by
  cases d with
  | int i => exact ⟨i, rfl, w⟩
  | _ => exact w.elim
theorem lstD_ok {d : D} {Q : List D → Prop} (w : WP (lstD d) Q) : ∃ ds, d = .list ds ∧ Q ds := by
  cases d with
  | list i => exact ⟨i, rfl, w⟩
  | _ => exact w.elim
theorem s_neg (h : PE X E (tG g fa .p f)) : PE X (.UnaryOp .USub E pos) (tG g fa .f fun ρ => (f ρ).bind fun x => (intD x).bind fun i => .ret (.int (-i))) :=
  pe_imp (pe_un un_neg h) fun σ H Q ⟨H0, ρ, R, w⟩ => ⟨H0, ρ, R, (WP.bind.mp w).mono fun d w v H1' H1 x1 r1 => by
    obtain ⟨i, rfl, w⟩ := intD_ok (WP.bind.mp w)
    cases r1
    exact ⟨i, rfl, w _ H1' H1 x1 (Rp.int _)⟩⟩
theorem s_nt (hK : X.K = g.K) (h : PE X E (tG g fa .v f)) : PE X (.UnaryOp .Not E pos) (tG g fa .f fun ρ => ((f ρ).bind truD).bind fun k => .ret (.bool !k)) :=
  pe_imp (pe_notT h) fun σ H Q ⟨H0, ρ, R, w⟩ => ⟨H0, ρ, R, (WP.bind.mp (WP.bind.mp w)).mono fun d w v H1' H1 x1 r1 => by
    obtain ⟨k, t, w⟩ := truV_ok x1.bs r1 w
    exact ⟨k, hK ▸ t, w _ H1' H1 x1 (Rp.bl _)⟩⟩
theorem Rel.of_p {H H0' H' : Hp} {m : Md} {v : V} {d : D} (hm : m ≠ .f) (r : Rp g fa H0' v d) : Rel g fa m H H0' H' v d := Rel.p (.inl hm) r
theorem s_and {rest : List Expr} (hK : X.K = g.K) (h1 : PE X E1 (tG g fa .p f1)) (h2 : PE X (.BoolOp .And (E2 :: rest) pos) (tG g fa .p f2)) :
    PE X (.BoolOp .And (E1 :: E2 :: rest) pos) (tG g fa .p fun ρ => (f1 ρ).bind fun x => (truD x).bind fun k => if k = true then f2 ρ else .ret x) :=
  pe_imp (pe_andT h1 h2) fun σ H Q ⟨H0, ρ, R, w⟩ => ⟨H0, ρ, R, (WP.bind.mp w).mono fun d w v H1' H1 x1 r1 => by
    obtain ⟨k, t, w⟩ := truV_ok x1.bs (.inl r1) (WP.bind.mp w)
    refine ⟨k, hK ▸ t, ?_⟩
    cases k with
    | true =>
      rw [if_pos rfl] at w ⊢
      exact ⟨H1', ρ, R.ext x1, w.mono fun d q v H2' H2 x2 r2 => q v H2' H2 (x1.trans x2) r2⟩
    | false =>
      rw [if_neg (by intro z; cases z)] at w ⊢
      exact w v H1' H1 x1 r1⟩
theorem s_or {rest : List Expr} (hK : X.K = g.K) (h1 : PE X E1 (tG g fa .p f1)) (h2 : PE X (.BoolOp .Or (E2 :: rest) pos) (tG g fa .p f2)) :
    PE X (.BoolOp .Or (E1 :: E2 :: rest) pos) (tG g fa .p fun ρ => (f1 ρ).bind fun x => (truD x).bind fun k => if k = true then .ret x else f2 ρ) :=
  pe_imp (pe_orT h1 h2) fun σ H Q ⟨H0, ρ, R, w⟩ => ⟨H0, ρ, R, (WP.bind.mp w).mono fun d w v H1' H1 x1 r1 => by
    obtain ⟨k, t, w⟩ := truV_ok x1.bs (.inl r1) (WP.bind.mp w)
    refine ⟨k, hK ▸ t, ?_⟩
    cases k with
    | false =>
      rw [if_neg (by intro z; cases z)] at w ⊢
      exact ⟨H1', ρ, R.ext x1, w.mono fun d q v H2' H2 x2 r2 => q v H2' H2 (x1.trans x2) r2⟩
    | true =>
      rw [if_pos rfl] at w ⊢
      exact w v H1' H1 x1 r1⟩
theorem s_ifx (hc : PT X E3 (tB1 g fa b1)) (h1 : PE X E1 (tG g fa .p f1)) (h2 : PE X E2 (tG g fa .p f2)) :
    PE X (.IfExp E3 E1 E2 pos) (tG g fa .p fun ρ => (b1 ρ).bind fun k => if k = true then f1 ρ else f2 ρ) :=
  pe_imp (pe_ifExp hc h1 h2) fun σ H Q ⟨H0, ρ, R, w⟩ => ⟨H0, ρ, R, (WP.bind.mp w).mono fun k w H1' H1 x1 => by
    cases k with
    | true =>
      rw [if_pos rfl] at w ⊢
      exact ⟨H1', ρ, R.ext x1, w.mono fun d q v H2' H2 x2 r2 => q v H2' H2 (x1.trans x2) r2⟩
    | false =>
      rw [if_neg (by intro z; cases z)] at w ⊢
      exact ⟨H1', ρ, R.ext x1, w.mono fun d q v H2' H2 x2 r2 => q v H2' H2 (x1.trans x2) r2⟩⟩
theorem s_ifxV (hc : PT X E3 (tB1 g fa b1)) (h1 : PE X E1 (tG g fa .v f1)) (h2 : PE X E2 (tG g fa .v f2)) :
    PE X (.IfExp E3 E1 E2 pos) (tG g fa .v fun ρ => (b1 ρ).bind fun k => if k = true then f1 ρ else f2 ρ) :=
  pe_imp (pe_ifExp hc h1 h2) fun σ H Q ⟨H0, ρ, R, w⟩ => ⟨H0, ρ, R, (WP.bind.mp w).mono fun k w H1' H1 x1 => by
    cases k with
    | true =>
      rw [if_pos rfl] at w ⊢
      exact ⟨H1', ρ, R.ext x1, w.mono fun d q v H2' H2 x2 r2 => q v H2' H2 (x1.trans x2) r2⟩
    | false =>
      rw [if_neg (by intro z; cases z)] at w ⊢
      exact ⟨H1', ρ, R.ext x1, w.mono fun d q v H2' H2 x2 r2 => q v H2' H2 (x1.trans x2) r2⟩⟩
theorem s_idx (hK : X.K = g.K) (hs : PlainIx E2) (h1 : PE X E1 (tG g fa .v f1)) (h2 : PE X E2 (tG g fa .p f2)) : PE X (.Subscript E1 E2 pos) (tG g fa .p fun ρ => (f1 ρ).bind fun x => (f2 ρ).bind fun y => idx2 x y) :=
  pe_imp (pe_ix (hK ▸ (ixR_or ix_list ix_tup : IxR X (rIxD X.K))) h1 h2 hs) fun σ H Q ⟨H0, ρ, R, w⟩ => ⟨H0, ρ, R, (WP.bind.mp w).mono fun d w v H1' H1 x1 r1 => ⟨H1', ρ, R.ext x1, (WP.bind.mp w).mono fun e w u H2' H2 x2 r2 =>
    ix_ok x2.bs (Rv.ext r1 x1.bs x2) (.inl r2) (w.mono fun d q v' r' => q v' H2' H2 (x1.trans x2) r')⟩⟩
theorem s_sl {lo hi : Option Expr} {o1 o2 : Ev → M (Option Int)} {p2 : Pos} (hK : X.K = g.K) (h1 : PE X E1 (tG g fa .v f1)) (h2 : PO X lo (tOpt g fa o1)) (h3 : PO X hi (tOpt g fa o2)) :
    PE X (.Subscript E1 (.Slice lo hi none p2) pos) (tG g fa .f fun ρ => (f1 ρ).bind fun x => (o1 ρ).bind fun i => (o2 ρ).bind fun j => sl2 x i j) :=
  pe_imp (pe_slice (hK ▸ (sl_rule : SlR X (rSlD X.K))) h1 h2 h3) fun σ H Q ⟨H0, ρ, R, w⟩ => ⟨H0, ρ, R, (WP.bind.mp w).mono fun d w v H1' H1 x1 r1 => ⟨H1', ρ, R.ext x1, (WP.bind.mp w).mono fun i w H2' H2 x2 =>
    ⟨H2', ρ, R.ext (x1.trans x2), (WP.bind.mp w).mono fun j w H3' H3 x3 => sl_ok x3.bs (Rv.ext (Rv.ext r1 x1.bs x2) x2.bs x3) (w.mono fun d q => Aft.of_ext R.bs ((x1.trans x2).trans x3) q)⟩⟩⟩
theorem s_optN : PO X none (tOpt g fa fun _ => .ret none) := po_imp po_none fun σ H Q ⟨H0, ρ, R, w⟩ => w H0 H (Ext.refl R.bs)
theorem s_optS (h : PE X E (tG g fa .p f)) : PO X (some E) (tOpt g fa fun ρ => (f ρ).bind fun d => (intD d).bind fun i => .ret (some i)) :=
  po_imp (po_some h) fun σ H Q ⟨H0, ρ, R, w⟩ => ⟨H0, ρ, R, (WP.bind.mp w).mono fun d w v H1' H1 x1 r1 => by
    obtain ⟨i, rfl, w⟩ := intD_ok (WP.bind.mp w)
    cases r1
    exact ⟨i, rfl, w H1' H1 x1⟩⟩

/-! arguments and displays -/
theorem a_nil : PA X [] (tArg g fa fun _ => .ret (.list [])) := pa_imp pa_nil fun σ H Q ⟨H0, ρ, R, w⟩ => w [] [] H0 H rfl (Ext.refl R.bs) .nil
theorem a_cons {es : List Expr} {f2 : Ev → M D} (hs : starEach (E :: es) X.env = (false, eval E X.env) :: starEach es X.env) (h1 : PE X E (tG g fa .p f1)) (h2 : PA X es (tArg g fa f2)) :
    PA X (E :: es) (tArg g fa fun ρ => (f1 ρ).bind fun d => (f2 ρ).bind fun x => (lstD x).bind fun ds => .ret (.list (d :: ds))) :=
  pa_imp (pa_cons h1 h2 hs) fun σ H Q ⟨H0, ρ, R, w⟩ => ⟨H0, ρ, R, (WP.bind.mp w).mono fun d w v H1' H1 x1 r1 => ⟨H1', ρ, R.ext x1, (WP.bind.mp w).mono fun e w vs ds H2' H2 he x2 r2 => by
    subst he
    exact w (v :: vs) (d :: ds) H2' H2 rfl (x1.trans x2) (.cons (Rp.mono x2.lo r1) r2)⟩⟩
theorem s_tup {es : List Expr} {k : Nat} (h : PA X es (tArg g fa f)) : PE X (.Tuple es k pos) (tG g fa .f fun ρ => (f ρ).bind fun x => (lstD x).bind fun ds => need (decide (ds.length ≤ sizeLine)) (.ret (.tuple ds))) :=
  pe_imp (pe_tup h) fun σ H Q ⟨H0, ρ, R, w⟩ => ⟨H0, ρ, R, (WP.bind.mp w).mono fun d w vs ds H1' H1 he x1 r1 => by
    subst he
    obtain ⟨hc, w⟩ := wp_need w
    exact ⟨by rw [r1.len]; exact of_decide_eq_true hc, fun p hp => Aft.newT x1.bs (Aft.of_ext R.bs x1 w) r1 hp⟩⟩
theorem s_lst {es : List Expr} (h : PA X es (tArg g fa f)) : PE X (.List es pos) (tG g fa .f fun ρ => (f ρ).bind fun x => (lstD x).bind fun ds => need (decide (ds.length ≤ sizeLine)) (.ret (.list ds))) :=
  pe_imp (pe_lst h) fun σ H Q ⟨H0, ρ, R, w⟩ => ⟨H0, ρ, R, (WP.bind.mp w).mono fun d w vs ds H1' H1 he x1 r1 => by
    subst he
    obtain ⟨hc, w⟩ := wp_need w
    exact ⟨by rw [r1.len]; exact of_decide_eq_true hc, fun p hp => Aft.newL x1.bs (Aft.of_ext R.bs x1 w) r1 hp⟩⟩

/-! built-ins -/
def biBoot (b : Bi) : Prop := bootBuiltins (biName b) = some (biVal b)
theorem bi_boot (b : Bi) : bootBuiltins (biName b) = some (biVal b) := by cases b <;> decide +kernel
theorem s_bi (b : Bi) {p : Pos} (hK : X.K = g.K) (hc : X.calm = true) (hgd : X.A.guards = some []) (hu : X.A.units + 66 < cLine) (hg : Gl X (biName b)) (hm : X.mg (biName b) = none)
    (hs : starEach [E] X.env = (false, eval E X.env) :: starEach [] X.env) (h : PE X E (tG g fa .v f)) :
    PE X (.Call (.Name (biName b) p) [E] [] pos) (tG g fa .f fun ρ => (f ρ).bind fun d => bi1 b d) := by
  have hr := bi_rule hc hgd hu b
  rw [hK] at hr
  have key : PE X (.Call (.Name (biName b) p) [E] [] pos) (tCB (rBi g.K b) (tCons (tG g fa .v f) tNil)) := by
    cases b with
    | len => exact pe_callB hr hg hm (bi_boot .len) (pa_cons h pa_nil hs) (by decide +kernel) (by decide +kernel) hs rfl
    | lst => exact pe_callTy hr hg hm (bi_boot .lst) (pa_cons h pa_nil hs) (by decide +kernel) (by decide +kernel) hs rfl
    | tup => exact pe_callTy hr hg hm (bi_boot .tup) (pa_cons h pa_nil hs) (by decide +kernel) (by decide +kernel) hs rfl
    | srt => exact pe_callB hr hg hm (bi_boot .srt) (pa_cons h pa_nil hs) (by decide +kernel) (by decide +kernel) hs rfl
    | all => exact pe_callB hr hg hm (bi_boot .all) (pa_cons h pa_nil hs) (by decide +kernel) (by decide +kernel) hs rfl
    | any => exact pe_callB hr hg hm (bi_boot .any) (pa_cons h pa_nil hs) (by decide +kernel) (by decide +kernel) hs rfl
    | ord => exact pe_callB hr hg hm (bi_boot .ord) (pa_cons h pa_nil hs) (by decide +kernel) (by decide +kernel) hs rfl
    | str => exact pe_callTy hr hg hm (bi_boot .str) (pa_cons h pa_nil hs) (by decide +kernel) (by decide +kernel) hs rfl
    | int => exact pe_callTy hr hg hm (bi_boot .int) (pa_cons h pa_nil hs) (by decide +kernel) (by decide +kernel) hs rfl
    | repr => exact pe_callB hr hg hm (bi_boot .repr) (pa_cons h pa_nil hs) (by decide +kernel) (by decide +kernel) hs rfl
  exact pe_imp key fun σ H Q ⟨H0, ρ, R, w⟩ => ⟨H0, ρ, R, (WP.bind.mp w).mono fun d w v H1' H1 x1 r1 => bi_ok x1.bs b r1 (w.mono fun z q => Aft.of_ext R.bs x1 q)⟩
theorem s_isi (t : Ty) {p p2 : Pos} {T : Str} (hT : bootBuiltins T = some (.type (tyName t))) (hK : X.K = g.K) (hg : Gl X "isinstance") (hm : X.mg "isinstance" = none) (hgT : Gl X T) (hmT : X.mg T = none) (hn : T ≠ "__name__") (hdb : (T == ("__debug__" : Str)) = false)
    (hs : starEach [E, .Name T p2] X.env = (false, eval E X.env) :: starEach [.Name T p2] X.env) (h : PE X E (tG g fa .v f)) :
    PE X (.Call (.Name "isinstance" p) [E, .Name T p2] [] pos) (tG g fa .f fun ρ => (f ρ).bind fun d => need (plainD d) (.ret (.bool (isTy t d)))) := by
  have hr : CallR X (.builtin "isinstance") (rIsi g.K) := hK ▸ call_isi
  refine pe_imp (pe_callB hr hg hm (by decide +kernel) (pa_cons h (pa_cons (pe_bltn (v := .ty (tyName t)) hgT hmT hT rfl hn hdb) pa_nil) hs) (by decide +kernel) (by decide +kernel) hs rfl) fun σ H Q ⟨H0, ρ, R, w⟩ => ⟨H0, ρ, R, (WP.bind.mp w).mono fun d w v H1' H1 x1 r1 => ?_⟩
  obtain ⟨hp, w⟩ := wp_need w
  exact isi_ok x1.bs t r1 hp (Aft.of_ext R.bs x1 w)
theorem s_upper {apos : Pos} (hb : attributeBase E "upper" X.env (eval E X.env) = eval E X.env) (hl : (apos.endLine == pos.line) = true) (h : PE X E (tG g fa .p f)) :
    PE X (.Call (.Attribute E "upper" apos) [] [] pos) (tG g fa .f fun ρ => (f ρ).bind fun d => match d with
    | .str a => need (decide (a.length ≤ 5592405)) (.ret (.str (Txt.upper a)))
    | _ => .bad) :=
  pe_imp (pe_upper h hb hl) fun σ H Q ⟨H0, ρ, R, w⟩ => ⟨H0, ρ, R, (WP.bind.mp w).mono fun d w v H1' H1 x1 r1 => by
    cases d with
    | str a =>
      cases r1
      obtain ⟨hc, w⟩ := wp_need w
      exact ⟨⟨a, rfl⟩, a, rfl, rfl, of_decide_eq_true hc, w _ H1' H1 x1 (Rp.str _)⟩
    | _ => exact w.elim⟩

/-! tests -/
theorem cmp2_bool {o : Cm} {d e : D} {Q : D → Prop} (w : WP (cmp2 o d e) Q) : WP (cmp2 o d e) fun z => (∃ k, z = .bool k) ∧ Q z := by
  unfold cmp2 at w ⊢
  split at w
  all_goals first
    | exact w.elim
    | exact ⟨⟨_, rfl⟩, w⟩
    | (obtain ⟨hc, w⟩ := wp_need w; rw [need_of hc]; exact ⟨⟨_, rfl⟩, w⟩)
theorem truD_ret {d : D} {Q : Bool → Prop} (w : WP (truD d) Q) : ∃ k, truD d = .ret k ∧ Q k := by
  cases d with
  | none => exact ⟨_, rfl, w⟩
  | bool k => exact ⟨_, rfl, w⟩
  | int k => exact ⟨_, rfl, w⟩
  | str k =>
    obtain ⟨hc, w⟩ := wp_need w
    exact ⟨_, need_of hc, w⟩
  | list k => exact ⟨_, rfl, w⟩
  | tuple k => exact ⟨_, rfl, w⟩
  | dict k => exact w.elim
theorem t_truth (hK : X.K = g.K) (he : ∀ whole, isTrue E X.env whole = (do let v ← whole; standAt E.pos; holding [v] (truthy v))) (h : PE X E (tG g fa .v f)) : PT X E (tB1 g fa fun ρ => (f ρ).bind truD) :=
  pt_imp (pt_truth h he) fun σ H Q ⟨H0, ρ, R, w⟩ => ⟨H0, ρ, R, (WP.bind.mp w).mono fun d w v H1' H1 x1 r1 => by
    obtain ⟨k, t, w⟩ := truV_ok x1.bs r1 w
    exact ⟨k, hK ▸ t, w H1' H1 x1⟩⟩
theorem t_cmp (o : Cm) (hK : X.K = g.K) (hu : X.A.units + 65 < cLine) (hm : behindInMarks (toCm o) E2 = false) (h1 : PE X E1 (tG g fa .v f1)) (h2 : PE X E2 (tG g fa .v f2)) : PT X (.Compare E1 [toCm o] [E2] pos) (tB1 g fa fun ρ => ((f1 ρ).bind fun x => (f2 ρ).bind fun y => cmp2 o x y).bind truD) := by
  have e1 : OpR X (compareOp (toCm o)) (rCm g.K o) := hK ▸ cm_rule hu o
  refine pt_imp (pt_cmpR e1 h1 h2 hm) fun σ H Q ⟨H0, ρ, R, w⟩ => ⟨H0, ρ, R, (WP.bind.mp (WP.bind.mp w)).mono fun d w v H1' H1 x1 r1 => ⟨H1', ρ, R.ext x1, (WP.bind.mp w).mono fun e w u H2' H2 x2 r2 => ?_⟩⟩
  refine cm_ok x2.bs o (Rv.ext r1 x1.bs x2) r2 ((cmp2_bool w).mono fun z q => ?_)
  obtain ⟨⟨k, rfl⟩, q⟩ := q
  intro v' H3' H3 x3 r3
  have r3 : Rp g fa H3' v' (.bool k) := r3
  cases r3
  exact ⟨k, rfl, q H3' H3 ((x1.trans x2).trans x3)⟩
theorem t_chain (o o' : Cm) (hK : X.K = g.K) (hu : X.A.units + 65 < cLine) (hm : lastMarks [toCm o, toCm o'] [E2, E3] = false) (h1 : PE X E1 (tG g fa .v f1)) (h2 : PE X E2 (tG g fa .v f2)) (h3 : PE X E3 (tG g fa .v f3)) :
    PT X (.Compare E1 [toCm o, toCm o'] [E2, E3] pos) (tB1 g fa fun ρ => ((f1 ρ).bind fun x => (f2 ρ).bind fun y => (cmp2 o x y).bind fun r => (boolD r).bind fun k => if k = true then (f3 ρ).bind fun z => cmp2 o' y z else .ret (.bool false)).bind truD) := by
  have e1 : OpR X (compareOp (toCm o)) (rCm g.K o) := hK ▸ cm_rule hu o
  have e2 : OpR X (compareOp (toCm o')) (rCm g.K o') := hK ▸ cm_rule hu o'
  refine pt_imp (pt_chain e1 e2 h1 h2 h3 hm) fun σ H Q ⟨H0, ρ, R, w⟩ => ⟨H0, ρ, R, (WP.bind.mp (WP.bind.mp w)).mono fun d w v H1' H1 x1 r1 => ⟨H1', ρ, R.ext x1, (WP.bind.mp w).mono fun e w u H2' H2 x2 r2 => ?_⟩⟩
  refine cm_ok x2.bs o (Rv.ext r1 x1.bs x2) r2 ((WP.bind.mp w).mono fun z q v' H3' H3 x3 r3 => ?_)
  cases z with
  | bool k =>
    have r3 : Rp g fa H3' v' (.bool k) := r3
    cases r3
    refine ⟨k, rfl, ?_⟩
    have q : WP (if k = true then (f3 ρ).bind fun z => cmp2 o' e z else .ret (.bool false)) _ := q
    have x13 := (x1.trans x2).trans x3
    cases k with
    | true =>
      rw [if_pos rfl] at q ⊢
      refine ⟨H3', ρ, R.ext x13, (WP.bind.mp q).mono fun z q w H4' H4 x4 r4 => ?_⟩
      refine cm_ok x4.bs o' (Rv.ext (Rv.ext r2 x2.bs x3) x3.bs x4) r4 ((cmp2_bool q).mono fun d q => ?_)
      obtain ⟨⟨k, rfl⟩, q⟩ := q
      intro v' H5' H5 x5 r5
      have r5 : Rp g fa H5' v' (.bool k) := r5
      cases r5
      exact ⟨k, rfl, q H5' H5 ((x13.trans x4).trans x5)⟩
    | false =>
      rw [if_neg (by intro z; cases z)] at q ⊢
      exact ⟨false, rfl, q H3' H3 x13⟩
  | _ => exact q.elim
theorem t_not (h : PT X E (tB1 g fa b1)) : PT X (.UnaryOp .Not E pos) (tB1 g fa fun ρ => ((b1 ρ).bind fun k => .ret (.bool !k)).bind truD) :=
  pt_imp (pt_not h) fun σ H Q ⟨H0, ρ, R, w⟩ => ⟨H0, ρ, R, (WP.bind.mp (WP.bind.mp w)).mono fun k w H1' H1 x1 => w H1' H1 x1⟩
theorem t_if (hc : PT X E3 (tB1 g fa b1)) {b2 b3 : Ev → M Bool} (h1 : PT X E1 (tB1 g fa b2)) (h2 : PT X E2 (tB1 g fa b3)) :
    PT X (.IfExp E3 E1 E2 pos) (tB1 g fa fun ρ => (b1 ρ).bind fun k => if k = true then b2 ρ else b3 ρ) := by
  refine ⟨fun ps s σ H Q I ⟨H0, ρ, R, w⟩ => ?_⟩
  show wpAny _ _ (do if ← isTrue E3 X.env (eval E3 X.env) then isTrue E1 X.env (eval E1 X.env) else isTrue E2 X.env (eval E2 X.env)) _ _ s
  refine wpAny_bind (thn (hc.run ps s σ H (fun k H1 => ∃ H1', Ext g fa H0 H H1' H1 ∧ WP (if k = true then b2 ρ else b3 ρ) fun k => ∀ H0' H', Ext g fa H0 H H0' H' → Q k H') I ⟨H0, ρ, R, (WP.bind.mp w).mono fun k w H1' H1 x1 => ⟨H1', x1, w⟩⟩) fun k s1 ⟨H1, I1, H1', x1, w⟩ => ?_)
  cases k with
  | true =>
    rw [if_pos rfl] at w ⊢
    exact h1.run ps s1 σ H1 Q I1 ⟨H1', ρ, R.ext x1, w.mono fun k q H2' H2 x2 => q H2' H2 (x1.trans x2)⟩
  | false =>
    rw [if_neg (by intro z; cases z)] at w ⊢
    exact h2.run ps s1 σ H1 Q I1 ⟨H1', ρ, R.ext x1, w.mono fun k q H2' H2 x2 => q H2' H2 (x1.trans x2)⟩
theorem t_and {rest : List Expr} (h1 : PT X E1 (tB1 g fa b1)) (h2 : PW X (.BoolOp .And (E2 :: rest) pos) (tB1 g fa b2)) :
    PW X (.BoolOp .And (E1 :: E2 :: rest) pos) (tB1 g fa fun ρ => (b1 ρ).bind fun k => if k = true then b2 ρ else .ret false) :=
  pw_imp (pw_and h1 h2) fun σ H Q ⟨H0, ρ, R, w⟩ => ⟨H0, ρ, R, (WP.bind.mp w).mono fun k w H1' H1 x1 => by
    cases k with
    | true =>
      rw [if_pos rfl] at w ⊢
      exact ⟨H1', ρ, R.ext x1, w.mono fun k q H2' H2 x2 => q H2' H2 (x1.trans x2)⟩
    | false =>
      rw [if_neg (by intro z; cases z)] at w ⊢
      exact w H1' H1 x1⟩
theorem t_or {rest : List Expr} (h1 : PT X E1 (tB1 g fa b1)) (h2 : PW X (.BoolOp .Or (E2 :: rest) pos) (tB1 g fa b2)) :
    PW X (.BoolOp .Or (E1 :: E2 :: rest) pos) (tB1 g fa fun ρ => (b1 ρ).bind fun k => if k = true then .ret true else b2 ρ) :=
  pw_imp (pw_or h1 h2) fun σ H Q ⟨H0, ρ, R, w⟩ => ⟨H0, ρ, R, (WP.bind.mp w).mono fun k w H1' H1 x1 => by
    cases k with
    | false =>
      rw [if_neg (by intro z; cases z)] at w ⊢
      exact ⟨H1', ρ, R.ext x1, w.mono fun k q H2' H2 x2 => q H2' H2 (x1.trans x2)⟩
    | true =>
      rw [if_pos rfl] at w ⊢
      exact w H1' H1 x1⟩
theorem pt_weak {b b' : Ev → M Bool} (h : PT X E (tB1 g fa b)) (i : ∀ ρ Q, WP (b' ρ) Q → WP (b ρ) Q) : PT X E (tB1 g fa b') := pt_imp h fun σ H Q ⟨H0, ρ, R, w⟩ => ⟨H0, ρ, R, i ρ _ w⟩
theorem pw_weak {b b' : Ev → M Bool} (h : PW X E (tB1 g fa b)) (i : ∀ ρ Q, WP (b' ρ) Q → WP (b ρ) Q) : PW X E (tB1 g fa b') := pw_imp h fun σ H Q ⟨H0, ρ, R, w⟩ => ⟨H0, ρ, R, i ρ _ w⟩
end

/-! ### defs -/
/-- as the kit's FnOk, where no repr is under way -/
structure FnG (P : Program) (w : World) (K : PySem.W.Frag) (mg : Str → Option Value) (base : Heap) (k : Nat) (f : Addr) (fd : FuncData) (ps : List Str) (sp : Sp) : Prop where
  len : ∀ vs H Q E, sp vs H Q E → vs.length = ps.length
  run : ∀ (A : Around) (outer : List Env) (s : Shared) (H : Hp) (args : Args) (us : List Value) (vs : List V) (Q : VK) (E : XK), Room k A → A.guards = some [] → Env0 P w K mg base A outer s H → BindsTo s fd args (ps.zip us) → Vals vs us → sp vs H Q E →
    codeAny (model P w) A (.call (.ref f) args) (CR L2.CX0 outer P w H s Q E) s
/-- a def's promise by its meaning -/
def spD (g : Gc) (n : Nat) (f : List D → M D) : Sp := fun vs H Q _ => vs.length = n ∧ ∃ fa H0 ds, Bs g fa H0 H ∧ RpAll g fa H0 vs ds ∧ WP (f ds) fun d => ∀ v H0' H', Ext g fa H0 H H0' H' → Rp g fa H0' v d → Q v H'
/-- the k-th def of the table, by its name and parameters -/
structure FnIn (g : Gc) (F : Nat → List D → M D) (X : Cx) (lv k : Nat) (x : Str) (ps : List Str) : Prop where
  ex : ∃ (a : Addr) (fd : FuncData) (j : Nat), j ≤ lv ∧ X.mg x = some (.ref a) ∧ PySem.W.keepIn X.K (.ref a) = true ∧ Binds X.K fd ps [] ∧ g.fn k = some a ∧ FnG X.prog X.w X.K X.mg X.base j a fd ps (spD g ps.length (F k))
  ln : ∀ ds Q, WP (F k ds) Q → ds.length = ps.length
section
variable {X : Cx} {g : Gc} {fa : Option Addr} {F : Nat → List D → M D} {lv k : Nat} {x : Str} {ps : List Str} {pos p : Pos}
theorem run_g {pins : List (Addr × Obj)} {σ : L2.St} {H : Hp} {s : Shared} {Q : VK} {us : List Value} {vs : List V} {f : Addr} {fd : FuncData} {sp : Sp} (G : FnG X.prog X.w X.K X.mg X.base k f fd ps sp) (hr : Room k X.A) (hgd : X.A.guards = some []) (hb : Binds X.K fd ps [])
    (I : Inv X pins σ H s) (r : Vals vs us) (h : sp vs H Q E0) : wpAny (model X.prog X.w) X.A (call (.ref f) us) (EP X pins σ Q) X.xe s := by
  have hl : us.length = ps.length := by rw [← r.length]; exact G.len _ _ _ _ h
  have hb' := hb s us I.kIn (by rw [List.append_nil]; exact hl)
  rw [List.append_nil] at hb'
  refine wpAny_call (codeAny_mono (G.run X.A X.stack s H ⟨us, []⟩ us vs Q E0 hr hgd I.env0 hb' r h) fun r s' hq => ?_)
  cases r with
  | error e => exact False.elim hq
  | ok fl =>
    cases fl with
    | ret u => exact I.after hq
    | next => exact False.elim hq
    | brk => exact False.elim hq
    | cont => exact False.elim hq
theorem s_call {E : Expr} {es : List Expr} {f : Ev → M D} (G : FnIn g F X lv k x ps) (hr : Room lv X.A) (hgd : X.A.guards = some []) (hg : Gl X x) (ha : PA X (E :: es) (tArg g fa f)) (hdb : (x == ("__debug__" : Str)) = false)
    (he : starEach (E :: es) X.env = (false, eval E X.env) :: starEach es X.env) (hpl : (backTo pos (starEach es X.env)).any (·.1) = false) :
    PE X (.Call (.Name x p) (E :: es) [] pos) (tG g fa .p fun ρ => (f ρ).bind fun y => (lstD y).bind fun ds => F k ds) := by
  obtain ⟨⟨a, fd, j, hj, hm, hk, hb, hfn, G⟩, ln⟩ := G
  refine ⟨fun pins s σ H Q I ⟨H0, ρ, R, w⟩ => ?_⟩
  refine wpAny_Call_Name_kw (ld_glob I hg hm ?_ hdb)
  refine PySem.W.callWith_K (h₀ := X.base) I.ok.mod.kin hk (thn (ha.run pos pins s σ H (fun vs H1 => spD g ps.length (F k) vs H1 Q E0) I ⟨H0, ρ, R, (WP.bind.mp w).mono fun d w vs ds H1' H1 hd x1 r1 => ?_⟩) fun us s1 ⟨vs, H1, I1, r, q⟩ => ⟨I1.kIn, run_g G (hr.mono hj) hgd hb I1 r q⟩) he hpl
  subst hd
  have w : WP (F k ds) _ := w
  exact ⟨by rw [r1.len]; exact ln _ _ w, fa, H1', ds, x1.bs, r1, w.mono fun d q v H0' H' x r => q v H0' H' (x1.trans x) r⟩
theorem s_call0 (G : FnIn g F X lv k x ps) (hr : Room lv X.A) (hgd : X.A.guards = some []) (hg : Gl X x) (hdb : (x == ("__debug__" : Str)) = false) :
    PE X (.Call (.Name x p) [] [] pos) (tG g fa .p fun ρ => F k []) := by
  obtain ⟨⟨a, fd, j, hj, hm, hk, hb, hfn, G⟩, ln⟩ := G
  refine ⟨fun pins s σ H Q I ⟨H0, ρ, R, w⟩ => ?_⟩
  refine wpAny_Call_Name_kw (ld_glob I hg hm ?_ hdb)
  refine PySem.W.callWith_K0 I.kIn hk (run_g (us := []) G (hr.mono hj) hgd hb I .nil ?_)
  exact ⟨ln _ _ w, fa, H0, [], R.bs, .nil, w⟩
/-- a def by its name, as a value -/
theorem s_fref {m : Md} (G : FnIn g F X lv k x ps) (hg : Gl X x) (hdb : (x == ("__debug__" : Str)) = false) : PE X (.Name x pos) (tG g fa m fun _ => .ret (fnD k)) := by
  obtain ⟨⟨a, fd, j, hj, hm, hk, hb, hfn, G⟩, ln⟩ := G
  exact s_const (pe_glob hg hm (v := .ref a) rfl hdb) (fun H => .fn hfn) (fun _ z => by cases z)
theorem fnOfD_ok {d : D} {Q : Nat → Prop} (w : WP (fnOfD d) Q) : ∃ k, d = fnD k ∧ Q k := by
  unfold fnOfD at w
  split at w
  next k =>
    obtain ⟨hc, w⟩ := wp_need w
    refine ⟨k.toNat, ?_, w⟩
    unfold fnD
    rw [Int.toNat_of_nonneg (of_decide_eq_true hc)]
  next => exact w.elim
theorem rp_fn {H0 : Hp} {v : V} {d : D} {k : Nat} (r : Rp g fa H0 v d) (e : d = fnD k) : ∃ a, v = .ref a ∧ g.fn k = some a := by
  cases r with
  | feed h => unfold feedD fnD at e; cases e
  | @fn a k' h =>
    unfold fnD at e
    have e2 : k' = k := by injection e with h1; injection h1 with h2; injection h2 with h3 h4; injection h4 with h5; exact Int.ofNat.inj h5
    subst e2
    exact ⟨a, rfl, h⟩
  | _ => unfold fnD at e; cases e
/-- a call of a local name that holds a def -/
theorem s_callv {i : Nat} {E : Expr} {es : List Expr} {f : Ev → M D} (G : ∀ k a, g.fn k = some a → ∃ (fd : FuncData) (j : Nat) (ps : List Str), j ≤ lv ∧ PySem.W.keepIn X.K (.ref a) = true ∧ Binds X.K fd ps [] ∧ FnG X.prog X.w X.K X.mg X.base j a fd ps (spD g ps.length (F k)) ∧ ∀ ds Q, WP (F k ds) Q → ds.length = ps.length)
    (hr : Room lv X.A) (hgd : X.A.guards = some []) (hN : X.N[i]? = some x) (hv : Vis X.env.scope x) (ha : PA X (E :: es) (tArg g fa f)) (hdb : (x == ("__debug__" : Str)) = false) (hcd : (x == ("__classdict__" : Str)) = false)
    (he : starEach (E :: es) X.env = (false, eval E X.env) :: starEach es X.env) (hpl : (backTo pos (starEach es X.env)).any (·.1) = false) :
    PE X (.Call (.Name x p) (E :: es) [] pos) (tG g fa .p fun ρ => (gs ρ i).bind fun v => (fnOfD v).bind fun k => (f ρ).bind fun y => (lstD y).bind fun ds => F k ds) := by
  refine ⟨fun pins s σ H Q I ⟨H0, ρ, R, w⟩ => ?_⟩
  obtain ⟨d, e, w⟩ := gs_ok (WP.bind.mp w)
  obtain ⟨v, hv1, sv⟩ := R.slot i _ e
  obtain ⟨k, rfl, w2⟩ := fnOfD_ok (WP.bind.mp w)
  have hr1 : ∃ a, v = .ref a ∧ g.fn k = some a := by
    have sv : Rp g fa H0 v (fnD k) := sv
    exact rp_fn sv rfl
  obtain ⟨a, rfl, hfn⟩ := hr1
  obtain ⟨fd, j, ps, hj, hk, hb, G, ln⟩ := G k a hfn
  refine wpAny_Call_Name_kw (thn ((pe_var hN hv hdb hcd).run pins s σ H (fun v H1 => v = .ref a ∧ H1 = H) I ⟨_, hv1, rfl, rfl⟩) fun u s1 ⟨v, H1, I1, r1, e1, e2⟩ => ?_)
  subst e1 e2
  cases r1
  refine PySem.W.callWith_K (h₀ := X.base) I1.ok.mod.kin hk (thn (ha.run pos pins s1 σ H1 (fun vs H1 => spD g ps.length (F k) vs H1 Q E0) I1 ⟨H0, ρ, R, (WP.bind.mp w2).mono fun d w vs ds H1' H2 hd x1 r1 => ?_⟩) fun us s2 ⟨vs, H2, I2, r, q⟩ => ⟨I2.kIn, run_g G (hr.mono hj) hgd hb I2 r q⟩) he hpl
  subst hd
  have w : WP (F k ds) _ := w
  exact ⟨by rw [r1.len]; exact ln _ _ w, fa, H1', ds, x1.bs, r1, w.mono fun d q v H0' H' x r => q v H0' H' (x1.trans x) r⟩

/-! ### the feed -/
def fkAt (f : Str × Str × Str × Str) : Nat → Option Str
  | 1 => some f.2.1
  | 2 => some f.2.2.1
  | 3 => some f.2.2.2
  | _ => none
structure FkOk (f : Str × Str × Str × Str) : Prop where
  a : f.1 ≠ f.2.1
  b : f.1 ≠ f.2.2.1
  c : f.1 ≠ f.2.2.2
  d : f.2.1 ≠ f.2.2.1
  e : f.2.1 ≠ f.2.2.2
  f : f.2.2.1 ≠ f.2.2.2
theorem cellsOf_ok {d : D} {Q : List D → Prop} (w : WP (cellsOf d) Q) : ∃ l, d = .dict [(.none, .list l)] ∧ Q l := by
  unfold cellsOf at w
  split at w
  · exact ⟨_, rfl, w⟩
  · exact w.elim
theorem rp_feed {H0 : Hp} {v : V} {d : D} {l : List D} (r : Rp g fa H0 v d) (e : d = .dict [(.none, .list l)]) : ∃ a, v = .ref a ∧ fa = some a ∧ l = g.ns.map .int := by
  cases r with
  | feed h =>
    unfold feedD at e
    injection e with h1
    injection h1 with h2
    injection h2 with h3 h4
    injection h4 with h5
    exact ⟨_, rfl, h, h5.symm⟩
  | fn h => unfold fnD at e; cases e
  | _ => cases e
theorem inr_ne {a b : Str} (h : a ≠ b) : ¬ (Sum.inr a : Key) = .inr b := fun z => h (Sum.inr.inj z)
theorem feed_get {H0 H : Hp} {a : Addr} {q : Nat} {k : Str} (b : Bs g fa H0 H) (hf : fa = some a) (ok : FkOk g.fk) (hk : fkAt g.fk q = some k) : ∃ i, DGet H a (.str k) (some (.int i)) := by
  obtain ⟨⟨ca, _, x, y, z, h, _⟩, _⟩ := b.fd a hf
  have hd := DGet.k (k := .inr k) h
  unfold fkAt at hk
  split at hk
  · cases hk
    rw [valV_neg (inr_ne ok.a), valV_pos rfl] at hd
    exact ⟨x, hd⟩
  · cases hk
    rw [valV_neg (inr_ne ok.b), valV_neg (inr_ne ok.d), valV_pos rfl] at hd
    exact ⟨y, hd⟩
  · cases hk
    rw [valV_neg (inr_ne ok.c), valV_neg (inr_ne ok.e), valV_neg (inr_ne ok.f), valV_pos rfl] at hd
    exact ⟨z, hd⟩
  · cases hk
theorem feed_cells {H0 H : Hp} {a : Addr} (b : Bs g fa H0 H) (hf : fa = some a) : ∃ ca, DGet H a (.str g.fk.1) (some (.ref ca)) ∧ H0 ca = some (.lst (g.ns.map V.int)) := by
  obtain ⟨⟨ca, _, x, y, z, h, hc⟩, _⟩ := b.fd a hf
  have hd := DGet.k (k := .inr g.fk.1) h
  rw [valV_pos rfl] at hd
  exact ⟨ca, hd, hc⟩
theorem feed_put {H0 H : Hp} {a : Addr} {q : Nat} {k : Str} (i : Int) (b : Bs g fa H0 H) (hf : fa = some a) (ok : FkOk g.fk) (hk : fkAt g.fk q = some k) : ∃ H', DPut H a (.str k) (.int i) H' ∧ Ext g fa H0 H H0 H' := by
  obtain ⟨⟨ca, u, x, y, z, h, hc⟩, hn⟩ := b.fd a hf
  have key : ∃ x' y' z' : Int, putK [(Sum.inr g.fk.1, V.ref ca), (.inr g.fk.2.1, .int x), (.inr g.fk.2.2.1, .int y), (.inr g.fk.2.2.2, .int z)] (.inr k : Key) (.int i) = [(.inr g.fk.1, .ref ca), (.inr g.fk.2.1, .int x'), (.inr g.fk.2.2.1, .int y'), (.inr g.fk.2.2.2, .int z')] := by
    have a1 := inr_ne ok.a; have a2 := inr_ne ok.b; have a3 := inr_ne ok.c; have a4 := inr_ne ok.d; have a5 := inr_ne ok.e; have a6 := inr_ne ok.f
    have b4 := inr_ne ok.d.symm; have b5 := inr_ne ok.e.symm; have b6 := inr_ne ok.f.symm
    unfold fkAt at hk
    split at hk
    · cases hk; exact ⟨i, y, z, by unfold putK; rw [if_pos (by simp)]; simp only [List.map_cons, List.map_nil, if_neg a1, if_neg b4, if_neg b5, if_true]⟩
    · cases hk; exact ⟨x, i, z, by unfold putK; rw [if_pos (by simp)]; simp only [List.map_cons, List.map_nil, if_neg a2, if_neg a4, if_neg b6, if_true]⟩
    · cases hk; exact ⟨x, y, i, by unfold putK; rw [if_pos (by simp)]; simp only [List.map_cons, List.map_nil, if_neg a3, if_neg a5, if_neg a6, if_true]⟩
    · cases hk
  obtain ⟨x', y', z', e⟩ := key
  refine ⟨_, DPut.k (k := .inr k) h (by rw [sizeLine_eq]; exact (by decide : (4 : Nat) < 16777216)), ⟨⟨fun c o hc' => ?_, fun c hc' => ?_⟩, fun _ _ z => z, fun c o hc' z => ?_, fun _ z => .inl z⟩⟩
  · have hca : c ≠ a := by rintro rfl; rw [hn] at hc'; cases hc'
    show upd H a _ c = some o
    unfold upd
    rw [if_neg hca]
    exact b.sub c o hc'
  · rw [hf] at hc'
    cases hc'
    refine ⟨⟨ca, u, x', y', z', ?_, hc⟩, hn⟩
    unfold upd
    rw [if_pos rfl, e]
  · have hca : c ≠ a := by rintro rfl; exact hc' hf
    unfold upd
    rw [if_neg hca]
    exact z
theorem s_fld {i q : Nat} {y : Str} {j : Nat} {p2 : Pos} (hu : X.A.units + 1 < cLine) (ok : FkOk g.fk) (hk : fkAt g.fk q = some y) (hN : X.N[i]? = some x) (hv : Vis X.env.scope x) (h1 : (x == ("__debug__" : Str)) = false) (h2 : (x == ("__classdict__" : Str)) = false) :
    PE X (.Subscript (.Name x p) (.Constant (.str y) j p2) pos) (tG g fa .p fun ρ => (gs ρ i).bind fun d => (cellsOf d).bind fun _ => .any fun n => .ret (.int n)) :=
  pe_imp (pe_dget hu (pe_var hN hv h1 h2) pe_str fun _ _ => rfl) fun σ H Q ⟨H0, ρ, R, w⟩ => by
    obtain ⟨d, e, w⟩ := gs_ok (WP.bind.mp w)
    obtain ⟨v, hv, s⟩ := R.slot i _ e
    obtain ⟨l, ed, w⟩ := cellsOf_ok (WP.bind.mp w)
    have s : Rp g fa H0 v d := s
    obtain ⟨a, rfl, hf, el⟩ := rp_feed s ed
    obtain ⟨n, hd⟩ := feed_get R.bs hf ok hk
    exact ⟨_, hv, a, _, rfl, hd, w n (.int n) H0 H (Ext.refl R.bs) (Rel.p (.inr fun _ z => by cases z) (.int n))⟩
theorem s_fcl {i : Nat} {j : Nat} {p2 : Pos} (hu : X.A.units + 1 < cLine) (hN : X.N[i]? = some x) (hv : Vis X.env.scope x) (h1 : (x == ("__debug__" : Str)) = false) (h2 : (x == ("__classdict__" : Str)) = false) :
    PE X (.Subscript (.Name x p) (.Constant (.str g.fk.1) j p2) pos) (tG g fa .p fun ρ => (gs ρ i).bind fun d => (cellsOf d).bind fun l => .ret (.list l)) :=
  pe_imp (pe_dget hu (pe_var hN hv h1 h2) pe_str fun _ _ => rfl) fun σ H Q ⟨H0, ρ, R, w⟩ => by
    obtain ⟨d, e, w⟩ := gs_ok (WP.bind.mp w)
    obtain ⟨v, hv, s⟩ := R.slot i _ e
    obtain ⟨l, ed, w⟩ := cellsOf_ok (WP.bind.mp w)
    have s : Rp g fa H0 v d := s
    obtain ⟨a, rfl, hf, el⟩ := rp_feed s ed
    subst el
    obtain ⟨ca, hd, hc⟩ := feed_cells R.bs hf
    have ri : ∀ ns : List Int, RpAll g fa H0 (ns.map V.int) (ns.map .int) := fun ns => by
      induction ns with
      | nil => exact .nil
      | cons n r ih => exact .cons (.int n) ih
    exact ⟨_, hv, a, _, rfl, hd, w (.ref ca) H0 H (Ext.refl R.bs) (.lst hc (ri _))⟩

/-! ### keywords alone -/
/-- how a call by keywords binds -/
def KBd (K : PySem.W.Frag) (fd : FuncData) (ps ks : List Str) (p : List Nat) : Prop := ∀ (s : Shared) (ws zs : List Value), K.In s.heap → ws.length = ks.length → p.mapM (ws[·]?) = some zs → BindsTo s fd ⟨[], ks.zip ws⟩ (ps.zip zs)
theorem k_nil : PK X [] (tArg g fa fun _ => .ret (.list [])) := ⟨fun pos ps s σ H Q I ⟨H0, ρ, R, w⟩ => pk_nil.run pos ps s σ H Q I (w [] [] H0 H rfl (Ext.refl R.bs) .nil)⟩
theorem k_cons {E : Expr} {kws : List Keyword} {f1 f2 : Ev → M D} {nm : Option Str} {kp : Pos} (h1 : PE X E (tG g fa .p f1)) (h2 : PK X kws (tArg g fa f2)) :
    PK X (⟨nm, E, kp⟩ :: kws) (tArg g fa fun ρ => (f1 ρ).bind fun d => (f2 ρ).bind fun x => (lstD x).bind fun ds => .ret (.list (d :: ds))) :=
  ⟨fun pos pins s σ H Q I ⟨H0, ρ, R, w⟩ => (pk_cons h1 h2).run pos pins s σ H Q I ⟨H0, ρ, R, (WP.bind.mp w).mono fun d w v H1' H1 x1 r1 => ⟨H1', ρ, R.ext x1, (WP.bind.mp w).mono fun e w vs ds H2' H2 he x2 r2 => by
    subst he
    exact w (v :: vs) (d :: ds) H2' H2 rfl (x1.trans x2) (.cons (Rp.mono x2.lo r1) r2)⟩⟩⟩
theorem permD_ok {vs : List D} {p : List Nat} {Q : List D → Prop} (w : WP (permD vs p) Q) : ∃ ws, p.mapM (vs[·]?) = some ws ∧ Q ws := by
  unfold permD at w
  split at w
  · exact ⟨_, by assumption, w⟩
  · exact w.elim
theorem perm_vals : ∀ {p : List Nat} {vs : List V} {us : List Value} {ds es : List D} {H : Hp}, Vals vs us → RpAll g fa H vs ds → p.mapM (ds[·]?) = some es → ∃ vs' us', p.mapM (us[·]?) = some us' ∧ Vals vs' us' ∧ RpAll g fa H vs' es
  | [], vs, us, ds, es, H, r, ra, e => by
    simp at e
    subst e
    exact ⟨[], [], rfl, .nil, .nil⟩
  | i :: p, vs, us, ds, es, H, r, ra, e => by
    rw [List.mapM_cons] at e
    cases e1 : ds[i]? with
    | none => rw [e1] at e; cases e
    | some d =>
      rw [e1] at e
      cases e2 : p.mapM (ds[·]?) with
      | none => rw [e2] at e; cases e
      | some es' =>
        rw [e2] at e
        cases e
        obtain ⟨v, hv, rv⟩ := ra.get' e1
        obtain ⟨vs', us', h1, h2, h3⟩ := perm_vals r ra e2
        obtain ⟨u, hu, ru⟩ := Vals.get r hv
        refine ⟨v :: vs', u :: us', ?_, .cons ru h2, .cons rv h3⟩
        rw [List.mapM_cons, hu, h1]
        rfl
theorem s_callk {fd : FuncData} {a : Addr} {j : Nat} {kws : List Keyword} {ks : List Str} {pm : List Nat} {f : Ev → M D} (hj : j ≤ lv) (hm : X.mg x = some (.ref a)) (hk : PySem.W.keepIn X.K (.ref a) = true) (G : FnG X.prog X.w X.K X.mg X.base j a fd ps (spD g ps.length (F k)))
    (ln : ∀ ds Q, WP (F k ds) Q → ds.length = ps.length) (hb : KBd X.K fd ps ks pm) (hr : Room lv X.A) (hgd : X.A.guards = some []) (hg : Gl X x) (hdb : (x == ("__debug__" : Str)) = false) (ha : PK X kws (tArg g fa f)) (hl : ∀ ρ Q, WP (f ρ) Q → WP (f ρ) fun d => Q d ∧ ∀ ds, d = .list ds → ds.length = ks.length)
    (hks : kws.map (·.arg) = ks.map some) : PE X (.Call (.Name x p) [] kws pos) (tG g fa .p fun ρ => (f ρ).bind fun y => (lstD y).bind fun vs => (permD vs pm).bind fun ds => F k ds) := by
  have h1 : (backToKw pos (keywordEach kws X.env)).map (·.1) = ks.map some := by
    rw [← hks]
    clear ha hks
    induction kws with
    | nil => rfl
    | cons q r ih => obtain ⟨n, e, p'⟩ := q; show n :: (backToKw pos (keywordEach r X.env)).map (·.1) = _; rw [ih]; rfl
  have h2 : (backToKw pos (keywordEach kws X.env)).all (·.1.isSome) = true := by
    rw [List.all_eq_true]
    intro q hq
    have : q.1 ∈ ks.map some := h1 ▸ List.mem_map_of_mem hq
    obtain ⟨z, _, e⟩ := List.mem_map.mp this
    rw [← e]; rfl
  have h3 : (backToKw pos (keywordEach kws X.env)).any (·.1.isNone) = false := by
    rw [List.any_eq_false]
    intro q hq
    have : q.1 ∈ ks.map some := h1 ▸ List.mem_map_of_mem hq
    obtain ⟨z, _, e⟩ := List.mem_map.mp this
    rw [← e]; simp
  have h4 : (backToKw pos (keywordEach kws X.env)).filterMap (·.1) = ks := by
    have : ∀ l : List (Option Str × Sem Value), l.filterMap (·.1) = (l.map (·.1)).filterMap id := fun l => by rw [List.filterMap_map]; rfl
    rw [this, h1, List.filterMap_map]
    simp
  refine ⟨fun pins s σ H Q I ⟨H0, ρ, R, w⟩ => ?_⟩
  refine wpAny_Call_Name_kw (ld_glob I hg hm ?_ hdb)
  refine PySem.W.callWith_KW0 (h₀ := X.base) I.ok.mod.kin hk h2 (thn (ha.run pos pins s σ H (fun vs H1 => vs.length = ks.length ∧ ∃ H1' ds es, Bs g fa H1' H1 ∧ RpAll g fa H1' vs ds ∧ pm.mapM (ds[·]?) = some es ∧ WP (F k es) fun d => ∀ v H0' H', Ext g fa H1' H1 H0' H' → Rp g fa H0' v d → Q v H') I
    ⟨H0, ρ, R, (hl ρ _ (WP.bind.mp w)).mono fun d ⟨w, hlen⟩ vs ds H1' H1 hd x1 r1 => ?_⟩) fun us s1 ⟨vs, H1, I1, r, q⟩ => ⟨I1.kIn, ?_⟩) (by rw [h3]; rfl)
  · subst hd
    obtain ⟨es, e1, w⟩ := permD_ok (WP.bind.mp w)
    exact ⟨by rw [r1.len]; exact hlen _ rfl, H1', ds, es, x1.bs, r1, e1, w.mono fun d q v H0' H' x r => q v H0' H' (x1.trans x) r⟩
  · obtain ⟨hlen, H1', ds, es, bs, r1, e1, w⟩ := q
    obtain ⟨vs', us', g1, g2, g3⟩ := perm_vals r r1 e1
    rw [h4]
    have hes := ln _ _ w
    refine wpAny_call (codeAny_mono (G.run X.A X.stack s1 H1 ⟨[], ks.zip us⟩ us' vs' Q E0 (hr.mono hj) hgd I1.env0 (hb s1 us us' I1.kIn (by rw [← r.length]; exact hlen) g1) g2 ⟨by rw [g3.len]; exact hes, fa, H1', es, bs, g3, w⟩) fun r s' hq => ?_)
    cases r with
    | error e => exact False.elim hq
    | ok fl =>
      cases fl with
      | ret u => exact I1.after hq
      | next => exact False.elim hq
      | brk => exact False.elim hq
      | cont => exact False.elim hq
end
end Pf
/-! PfH: stores, targets, walks, comprehensions. -/
namespace Pf
open PySem PySem.Spec PyProof.Rows L2

theorem clr_get {ρ : Ev} {k : Nat} {sv : SV} (h : (clr ρ)[k]? = some (some sv)) : ρ[k]? = some (some sv) ∧ ∀ d, sv ≠ .bor d := by
  unfold clr at h
  rw [List.getElem?_map] at h
  cases e : ρ[k]? with
  | none => rw [e] at h; cases h
  | some o =>
    rw [e] at h
    cases o with
    | none => cases h
    | some s =>
      cases s with
      | dat d => cases h; exact ⟨rfl, fun _ z => by cases z⟩
      | own d => cases h; exact ⟨rfl, fun _ z => by cases z⟩
      | bor d => cases h
theorem clr_own {ρ : Ev} {k : Nat} {d : D} (h : ρ[k]? = some (some (.own d))) : (clr ρ)[k]? = some (some (.own d)) := by
  unfold clr
  rw [List.getElem?_map, h]; rfl
theorem clr_len (ρ : Ev) : (clr ρ).length = ρ.length := by unfold clr; exact List.length_map _
section
variable {g : Gc} {fa : Option Addr} {H0 H H0' H' : Hp} {σ : L2.St} {ρ : Ev}
theorem RepS.clr (R : RepS g fa H0 H σ ρ) : RepS g fa H0 H σ (clr ρ) := R.weak (clr_len ρ) (fun i sv h => (clr_get h).1) fun i d h => absurd rfl ((clr_get h).2 d)
/-- a store into a slot on which no other one leans -/
theorem RepS.setAny (R : RepS g fa H0 H σ ρ) {i : Nat} {v : V} {sv : SV} (hb : ∀ (k : Nat) d, k ≠ i → ρ[k]? = some (some (.bor d)) → ∀ e, ρ[i]? ≠ some (some (.own e)))
    (hs : SlotOk g fa H0 H σ ρ v sv) (hn : ∀ d, sv = .bor d → ∀ e, ρ[i]? ≠ some (some (.own e)))
    (ho : ∀ d, sv = .own d → ∀ (j : Nat) e, j ≠ i → ρ[j]? = some (some (.own e)) → σ[j]? ≠ some (some v)) :
    RepS g fa H0 H (σ.set i (some v)) (ρ.set i (some sv)) := by
  have hl := R.len
  refine ⟨R.bs, by rw [List.length_set, List.length_set]; exact hl, fun k s e => ?_, fun k j d e u h1 h2 h3 h4 => ?_⟩
  · by_cases hk : i = k
    · subst hk
      by_cases hi : i < ρ.length
      · rw [List.getElem?_set_self hi] at e
        cases e
        refine ⟨v, by rw [List.getElem?_set_self (by omega)], ?_⟩
        cases sv with
        | dat d => exact hs
        | own d => exact hs
        | bor d =>
          rcases hs with hs | ⟨j, h1, h2⟩
          · exact .inl hs
          · refine .inr ⟨j, ?_, ?_⟩
            · by_cases hj : i = j
              · subst hj; exact absurd h2 (hn d rfl d)
              · rw [List.getElem?_set_ne hj]; exact h1
            · by_cases hj : i = j
              · subst hj; exact absurd h2 (hn d rfl d)
              · rw [List.getElem?_set_ne hj]; exact h2
      · rw [List.getElem?_eq_none (by rw [List.length_set]; omega)] at e; cases e
    · rw [List.getElem?_set_ne hk] at e
      obtain ⟨u, hu, q⟩ := R.slot k s e
      refine ⟨u, by rw [List.getElem?_set_ne hk]; exact hu, ?_⟩
      cases s with
      | dat d => exact q
      | own d => exact q
      | bor d =>
        rcases q with q | ⟨j, h1, h2⟩
        · exact .inl q
        · have hj : i ≠ j := fun z => by subst z; exact hb k d (fun z => hk z.symm) e d h2
          exact .inr ⟨j, by rw [List.getElem?_set_ne hj]; exact h1, by rw [List.getElem?_set_ne hj]; exact h2⟩
  · have nn : ∀ (k : Nat) d, k ≠ i → (ρ.set i (some sv))[k]? = some (some (SV.own d)) → ρ[k]? = some (some (SV.own d)) := fun k d hk h => by
      rw [List.getElem?_set_ne (fun z => hk z.symm)] at h; exact h
    have ns : ∀ (k : Nat) u, k ≠ i → (σ.set i (some v))[k]? = some (some u) → σ[k]? = some (some u) := fun k u hk h => by
      rw [List.getElem?_set_ne (fun z => hk z.symm)] at h; exact h
    have at_ : ∀ {d : D} {u : V}, (ρ.set i (some sv))[i]? = some (some (SV.own d)) → (σ.set i (some v))[i]? = some (some u) → sv = .own d ∧ u = v := fun {d u} h h' => by
      by_cases hi : i < ρ.length
      · rw [List.getElem?_set_self hi] at h
        rw [List.getElem?_set_self (by omega)] at h'
        exact ⟨by simpa using h, by simpa using h'.symm⟩
      · rw [List.getElem?_eq_none (by rw [List.length_set]; omega)] at h; cases h
    by_cases hk : k = i
    · subst hk
      by_cases hj : j = k
      · exact hj.symm
      · obtain ⟨e1, e2⟩ := at_ h1 h3
        subst e2
        exact absurd (ns j _ hj h4) (ho d e1 j e hj (nn j e hj h2))
    · by_cases hj : j = i
      · subst hj
        obtain ⟨e1, e2⟩ := at_ h2 h4
        subst e2
        exact absurd (ns k _ hk h3) (ho e e1 k d hk (nn k d hk h1))
      · exact R.own k j d e u (nn k d hk h1) (nn j e hj h2) (ns k u hk h3) (ns j u hj h4)
/-- x = data -/
theorem RepS.put (R : RepS g fa H0 H σ ρ) (i : Nat) {v : V} {sv : SV} (hs : SlotOk g fa H0 H σ (Pf.clr ρ) v sv) (hb : ∀ d, sv = .bor d → ∀ e, ρ[i]? ≠ some (some (.own e)))
    (ho : ∀ d, sv = .own d → ∀ (j : Nat) e, j ≠ i → ρ[j]? = some (some (.own e)) → σ[j]? ≠ some (some v)) : RepS g fa H0 H (σ.set i (some v)) (put ρ i sv) := by
  have hc : ∀ sv, SlotOk g fa H0 H σ (Pf.clr ρ) v sv → SlotOk g fa H0 H σ ρ v sv := fun sv h => by
    cases sv with
    | dat d => exact h
    | own d => exact h
    | bor d =>
      rcases h with h | ⟨j, h1, h2⟩
      · exact .inl h
      · exact .inr ⟨j, h1, (clr_get h2).1⟩
  unfold Pf.put
  split
  · rename_i e he
    refine R.clr.setAny (fun k d hk h => absurd rfl ((clr_get h).2 d)) hs (fun d e1 => absurd he (hb d e1 e)) fun d e1 j e hj h2 => ho d e1 j e hj (clr_get h2).1
  · rename_i hn
    exact R.setAny (fun k d hk h e h2 => hn e h2) (hc sv hs) (fun d e1 e h2 => hn e h2) ho
theorem RepS.putD (R : RepS g fa H0 H σ ρ) (i : Nat) {v : V} {d : D} (r : Rp g fa H0 v d) : RepS g fa H0 H (σ.set i (some v)) (Pf.put ρ i (.dat d)) :=
  R.put i r (fun _ z => by cases z) fun _ z => by cases z
theorem RepS.putO (R : RepS g fa H0 H σ ρ) (i : Nat) {a : Addr} {d : D} (o : OwnAt g fa H0 H a d) (hn : ∀ (j : Nat) e b, ρ[j]? = some (some (.own e)) → σ[j]? = some (some (.ref b)) → b ≠ a) : RepS g fa H0 H (σ.set i (some (.ref a))) (Pf.put ρ i (.own d)) :=
  R.put i ⟨a, rfl, o⟩ (fun _ z => by cases z) fun _ _ j e _ h1 h2 => hn j e a h1 h2 rfl
/-- slots forgotten -/
theorem wip_get {ρ : Ev} {k : Nat} {sv : SV} : ∀ {vs : List Nat}, (wip ρ vs)[k]? = some (some sv) → ρ[k]? = some (some sv) ∧ k ∉ vs
  | [], h => ⟨h, by simp⟩
  | v :: vs, h => by
    unfold wip at h
    by_cases hv : v = k
    · subst hv
      by_cases hi : v < (wip ρ vs).length
      · rw [List.getElem?_set_self hi] at h; cases h
      · rw [List.getElem?_eq_none (by rw [List.length_set]; omega)] at h; cases h
    · rw [List.getElem?_set_ne hv] at h
      obtain ⟨h1, h2⟩ := wip_get h
      exact ⟨h1, by simp only [List.mem_cons, not_or]; exact ⟨fun z => hv z.symm, h2⟩⟩
theorem wip_of {ρ : Ev} {k : Nat} {o : Option SV} : ∀ {vs : List Nat}, ρ[k]? = some o → k ∉ vs → (wip ρ vs)[k]? = some o
  | [], h, _ => h
  | v :: vs, h, hn => by
    simp only [List.mem_cons, not_or] at hn
    unfold wip
    rw [List.getElem?_set_ne (fun z => hn.1 z.symm)]
    exact wip_of h hn.2
theorem wip_len (ρ : Ev) : ∀ vs : List Nat, (wip ρ vs).length = ρ.length
  | [] => rfl
  | v :: vs => by unfold wip; rw [List.length_set, wip_len ρ vs]
theorem wipe_of {σ : L2.St} {k : Nat} {o : Option V} : ∀ {vs : List Nat}, σ[k]? = some o → k ∉ vs → (wipe σ vs)[k]? = some o
  | [], h, _ => h
  | v :: vs, h, hn => by
    simp only [List.mem_cons, not_or] at hn
    unfold wipe
    rw [List.getElem?_set_ne (fun z => hn.1 z.symm)]
    exact wipe_of h hn.2
theorem RepS.wipe (R : RepS g fa H0 H σ ρ) {vs : List Nat} (hd : datOnly ρ vs = true) : RepS g fa H0 H (L2.wipe σ vs) (wip ρ vs) := by
  have hno : ∀ (j : Nat) d, ρ[j]? = some (some (.own d)) → j ∉ vs := fun j d h hj => by
    have := List.all_eq_true.mp hd j hj
    rw [h] at this
    cases this
  refine ⟨R.bs, by rw [wipe_length, wip_len]; exact R.len, fun k sv e => ?_, fun k j d e v h1 h2 h3 h4 => ?_⟩
  · obtain ⟨e1, hk⟩ := wip_get e
    obtain ⟨v, hv, s⟩ := R.slot k sv e1
    refine ⟨v, wipe_of hv hk, ?_⟩
    cases sv with
    | dat d => exact s
    | own d => exact s
    | bor d =>
      rcases s with s | ⟨j, h1, h2⟩
      · exact .inl s
      · exact .inr ⟨j, wipe_of h1 (hno j d h2), wip_of h2 (hno j d h2)⟩
  · exact R.own k j d e v (wip_get h1).1 (wip_get h2).1 (wipe_some h3).1 (wipe_some h4).1
end
/-- σ2 is σ outside of vs -/
def Off (vs : List Nat) (σ σ2 : L2.St) : Prop := σ2.length = σ.length ∧ ∀ i, i ∉ vs → σ2[i]? = σ[i]?
theorem Off.refl {vs : List Nat} {σ : L2.St} : Off vs σ σ := ⟨rfl, fun _ _ => rfl⟩
theorem Off.trans {vs : List Nat} {σ σ2 σ3 : L2.St} (a : Off vs σ σ2) (b : Off vs σ2 σ3) : Off vs σ σ3 := ⟨b.1.trans a.1, fun i h => (b.2 i h).trans (a.2 i h)⟩
theorem Off.set {vs : List Nat} {σ : L2.St} {i : Nat} {o : Option V} (h : i ∈ vs) : Off vs σ (σ.set i o) := ⟨List.length_set .., fun k hk => List.getElem?_set_ne (fun z : i = k => hk (by rw [← z]; exact h))⟩
theorem wipe_at {σ : L2.St} {k : Nat} : ∀ {vs : List Nat}, k ∉ vs → (wipe σ vs)[k]? = σ[k]?
  | [], _ => rfl
  | v :: vs, hn => by
    simp only [List.mem_cons, not_or] at hn
    unfold wipe
    rw [List.getElem?_set_ne (fun z => hn.1 z.symm)]
    exact wipe_at hn.2
theorem wipe_in {σ : L2.St} {k : Nat} : ∀ {vs : List Nat}, k ∈ vs → k < σ.length → (wipe σ vs)[k]? = some none
  | v :: vs, h, hl => by
    unfold wipe
    by_cases hv : v = k
    · subst hv
      rw [List.getElem?_set_self (by rw [wipe_length]; exact hl)]
    · rw [List.getElem?_set_ne hv]
      rcases List.mem_cons.mp h with h | h
      · exact absurd h.symm hv
      · exact wipe_in h hl
theorem Off.wipe {vs : List Nat} {σ σ2 : L2.St} (h : Off vs (L2.wipe σ vs) σ2) : L2.wipe σ2 vs = L2.wipe σ vs := by
  have hl : σ2.length = σ.length := by rw [h.1, wipe_length]
  apply List.ext_getElem?
  intro k
  by_cases hk : k ∈ vs
  · by_cases hs : k < σ.length
    · rw [wipe_in hk hs, wipe_in hk (by omega)]
    · rw [List.getElem?_eq_none (by rw [wipe_length]; omega), List.getElem?_eq_none (by rw [wipe_length]; omega)]
  · rw [wipe_at hk, wipe_at hk, h.2 k hk, wipe_at hk]

section
variable {σ σ' : L2.St} {ρ ρ' : Ev}
/-- own slots of the second are own slots of the first -/
def Kp (σ : L2.St) (ρ : Ev) (σ' : L2.St) (ρ' : Ev) : Prop := ∀ (j : Nat) e, ρ'[j]? = some (some (SV.own e)) → ρ[j]? = some (some (SV.own e)) ∧ σ'[j]? = σ[j]?
theorem Kp.refl : Kp σ ρ σ ρ := fun _ _ h => ⟨h, rfl⟩
theorem Kp.trans {σ2 : L2.St} {ρ2 : Ev} (a : Kp σ ρ σ' ρ') (b : Kp σ' ρ' σ2 ρ2) : Kp σ ρ σ2 ρ2 := fun j e h => ⟨(a j e (b j e h).1).1, ((b j e h).2).trans (a j e (b j e h).1).2⟩
theorem put_own {ρ : Ev} {i j : Nat} {sv : SV} {e : D} (hs : ∀ d, sv ≠ .own d) (h : (put ρ i sv)[j]? = some (some (.own e))) : ρ[j]? = some (some (.own e)) ∧ j ≠ i := by
  have key : ∀ ρ1 : Ev, ((∀ k d, ρ1[k]? = some (some (SV.own d)) → ρ[k]? = some (some (SV.own d))) → (ρ1.set i (some sv))[j]? = some (some (.own e)) → ρ[j]? = some (some (.own e)) ∧ j ≠ i) := fun ρ1 h1 h2 => by
    by_cases hj : i = j
    · subst hj
      by_cases hi : i < ρ1.length
      · rw [List.getElem?_set_self hi] at h2
        exact absurd (by simpa using h2) (hs e)
      · rw [List.getElem?_eq_none (by rw [List.length_set]; omega)] at h2; cases h2
    · rw [List.getElem?_set_ne hj] at h2
      exact ⟨h1 j e h2, fun z => hj z.symm⟩
  unfold put at h
  split at h
  · exact key (clr ρ) (fun k d h => (clr_get h).1) h
  · exact key ρ (fun _ _ h => h) h
theorem Kp.put {i : Nat} {v : Option V} {sv : SV} (hs : ∀ d, sv ≠ .own d) : Kp σ ρ (σ.set i v) (put ρ i sv) := fun j e h => by
  obtain ⟨h1, h2⟩ := put_own hs h
  exact ⟨h1, List.getElem?_set_ne (fun z => h2 z.symm)⟩
end
/-! ### targets -/
def slotsOf : Sx → List Nat
  | .var i => [i]
  | .tup a => slotsOf a
  | .cons t a => slotsOf t ++ slotsOf a
  | _ => []
def gT (g : Gc) (fa : Option Addr) (ts : List Nat) (f : D → Ev → M Ev) : TG := fun v σ H Q =>
  ∃ H0 ρ d, RepS g fa H0 H σ ρ ∧ Rp g fa H0 v d ∧ WP (f d ρ) fun ρ' => ∀ σ', Off ts σ σ' → Kp σ ρ σ' ρ' → RepS g fa H0 H σ' ρ' → Q σ' H
def gTs (g : Gc) (fa : Option Addr) (ts : List Nat) (f : D → Ev → M Ev) : TGs := fun vs σ H Q =>
  ∃ H0 ρ ds, RepS g fa H0 H σ ρ ∧ RpAll g fa H0 vs ds ∧ WP (f (.list ds) ρ) fun ρ' => ∀ σ', Off ts σ σ' → Kp σ ρ σ' ρ' → RepS g fa H0 H σ' ρ' → Q σ' H
section
variable {X : Cx} {g : Gc} {fa : Option Addr} {E : Expr} {es : List Expr} {pos : Pos} {ts ts' : List Nat} {f f' : D → Ev → M Ev}
theorem pg_imp {t t' : TG} (h : PG X E t) (i : ∀ v σ H Q, t' v σ H Q → t v σ H Q) : PG X E t' := by
  obtain ⟨h⟩ := h
  constructor
  intros
  apply h <;> first | assumption | (apply i; assumption)
theorem pgs_imp {t t' : TGs} (h : PGs X es t) (i : ∀ v σ H Q, t' v σ H Q → t v σ H Q) : PGs X es t' := by
  obtain ⟨h⟩ := h
  constructor
  intros
  apply h <;> first | assumption | (apply i; assumption)
theorem g_var {i : Nat} {x : Str} (hN : X.N.Nodup) (hi : X.N[i]? = some x) (hx : Loc X.env.scope x) (hf : X.fn x = true ∨ X.env.scope.names.lookup x = some .local) : PG X (.Name x pos) (gT g fa [i] fun d ρ => .ret (put ρ i (.dat d))) :=
  pg_imp (pg_name hN hi hx hf) fun v σ H Q ⟨H0, ρ, d, R, r, w⟩ => w _ (Off.set (by simp)) (Kp.put fun _ z => by cases z) (R.putD i r)
theorem g_tup {k : Nat} (hK : X.K = g.K) (hc : X.calm = true) (h : PGs X es (gTs g fa ts f)) (h1 : (assignEach es X.env).length = es.length) (h2 : List.findIdx? (fun x => x.fst) (assignEach es X.env) = none)
    (hn : ∀ ρ ds Q, WP (f (.list ds) ρ) Q → ds.length = es.length) :
    PG X (.Tuple es k pos) (gT g fa ts fun d ρ => match d with
      | .tuple ds => f (.list ds) ρ
      | _ => .bad) :=
  pg_imp (pg_tup hc h h1 h2) fun v σ H Q ⟨H0, ρ, d, R, r, w⟩ => by
    cases d with
    | tuple ds =>
      have w : WP (f (.list ds) ρ) _ := w
      have r' := Rp.mono R.bs.sub r
      cases r with
      | tup hs ha =>
        exact ⟨_, _, rfl, hK ▸ sqT_mono R.bs.sub hs, by rw [ha.len]; exact hn _ _ _ w, H0, ρ, ds, R, ha, w⟩
    | _ => exact w.elim
theorem gs_nil : PGs X [] (gTs g fa ts fun d ρ => match d with
      | .list [] => .ret ρ
      | _ => .bad) := pgs_imp pgs_nil fun vs σ H Q ⟨H0, ρ, ds, R, r, w⟩ => by
    cases r with
    | nil => exact ⟨rfl, w σ Off.refl Kp.refl R⟩
    | cons _ _ => exact w.elim
theorem Off.mono {vs ws : List Nat} {σ σ2 : L2.St} (h : Off vs σ σ2) (hs : ∀ i ∈ vs, i ∈ ws) : Off ws σ σ2 := ⟨h.1, fun i hi => h.2 i fun z => hi (hs i z)⟩
theorem gs_cons (h1 : PG X E (gT g fa ts f)) (h2 : PGs X es (gTs g fa ts' f')) (he : List.map (fun x => x.snd) (assignEach (E :: es) X.env) = assign E X.env :: List.map (fun x => x.snd) (assignEach es X.env)) :
    PGs X (E :: es) (gTs g fa (ts ++ ts') fun d ρ => match d with
      | .list (d :: ds) => (f d ρ).bind fun ρ1 => f' (.list ds) ρ1
      | _ => .bad) := pgs_imp (pgs_cons h1 h2 he) fun vs σ H Q ⟨H0, ρ, ds, R, r, w⟩ => by
    cases r with
    | nil => exact w.elim
    | cons r rs =>
      refine ⟨_, _, rfl, H0, ρ, _, R, r, (WP.bind.mp w).mono fun ρ1 w σ1 o1 k1 R1 => ⟨H0, ρ1, _, R1, rs, w.mono fun ρ2 w σ2 o2 k2 R2 => w σ2 ?_ (k1.trans k2) R2⟩⟩
      exact (o1.mono fun i hi => List.mem_append_left _ hi).trans (o2.mono fun i hi => List.mem_append_right _ hi)
end

/-! ### what is walked -/
def Wk (g : Gc) (fa : Option Addr) (J : It) (ds : List D) (H0' H' : Hp) (i : Nat) : Prop :=
  (∀ d, ds[i]? = some d → J.go i H' ∧ ∀ x H'', J.yld i H' x H'' → ∃ H0'', Ext g fa H0' H' H0'' H'' ∧ Rp g fa H0'' x d) ∧ (ds.length ≤ i → J.stop i H')
/-- as long as things are added alone; as long as data stay -/
def WkE (g : Gc) (fa : Option Addr) (H0 H : Hp) (J : It) (ds : List D) : Prop := ∀ i H0' H', Ext g fa H0 H H0' H' → Wk g fa J ds H0' H' i
def WkD (g : Gc) (fa : Option Addr) (H0 : Hp) (J : It) (ds : List D) : Prop := ∀ i H0' H', Bs g fa H0' H' → (∀ a o, H0 a = some o → H0' a = some o) → Wk g fa J ds H0' H' i
theorem WkD.e {g : Gc} {fa : Option Addr} {H0 H : Hp} {J : It} {ds : List D} (h : WkD g fa H0 J ds) : WkE g fa H0 H J ds := fun i H0' H' x => h i H0' H' x.bs x.lo
def tWE (g : Gc) (fa : Option Addr) (f : Ev → M (List D)) : TI := fun σ H R => ∃ H0 ρ, RepS g fa H0 H σ ρ ∧ WP (f ρ) fun ds => ds.length ≤ sizeLine → ∀ J H0' H', Ext g fa H0 H H0' H' → WkE g fa H0' H' J ds → R J H'
def tWD (g : Gc) (fa : Option Addr) (f : Ev → M (List D)) : TI := fun σ H R => ∃ H0 ρ, RepS g fa H0 H σ ρ ∧ WP (f ρ) fun ds => ds.length ≤ sizeLine → ∀ J H0' H', Ext g fa H0 H H0' H' → WkD g fa H0' J ds → R J H'
section
variable {X : Cx} {g : Gc} {fa : Option Addr} {E E1 E2 tg : Expr} {f f1 f2 : Ev → M D} {fi : Ev → M (List D)} {pos p : Pos}
theorem pi_imp {t t' : TI} (h : PI X tg E t) (i : ∀ σ H R, t' σ H R → t σ H R) : PI X tg E t' := ⟨fun ps s σ H R I q => h.run ps s σ H R I (i σ H R q)⟩
theorem w_e (h : PI X tg E (tWD g fa fi)) : PI X tg E (tWE g fa fi) := pi_imp h fun σ H R ⟨H0, ρ, S, w⟩ => ⟨H0, ρ, S, w.mono fun ds q hz J H0' H' x k => q hz J H0' H' x k.e⟩
theorem wk_list {H0 : Hp} {a : Addr} {xs : List V} {ds : List D} (h : H0 a = some (.lst xs)) (r : RpAll g fa H0 xs ds) : WkD g fa H0 (Itl g.K a) ds := fun i H0' H' b lo => by
  have ha : H' a = some (.lst xs) := b.sub _ _ (lo _ _ h)
  refine ⟨fun d e => ?_, fun hl => ⟨xs, .inl (.inl ha), by rw [r.len]; exact hl⟩⟩
  obtain ⟨v, hv, rv⟩ := r.get' e
  refine ⟨⟨xs, v, .inl (.inl ha), hv⟩, fun x H'' ⟨e1, e2⟩ => ?_⟩
  subst e1
  have := e2 xs (.inl (.inl ha))
  rw [hv] at this
  cases this
  exact ⟨H0', Ext.refl b, Rp.mono lo rv⟩
theorem wk_tup {H0 : Hp} {a : Addr} {xs : List V} {ds : List D} (h : SqT g.K H0 a xs) (r : RpAll g fa H0 xs ds) : WkD g fa H0 (Itt g.K a) ds := fun i H0' H' b lo => by
  have ha : SqT g.K H' a xs := sqT_mono b.sub (sqT_mono lo h)
  refine ⟨fun d e => ?_, fun hl => ⟨xs, ha, by rw [r.len]; exact hl⟩⟩
  obtain ⟨v, hv, rv⟩ := r.get' e
  refine ⟨⟨xs, v, ha, hv⟩, fun x H'' ⟨e1, e2⟩ => ?_⟩
  subst e1
  have := e2 xs ha
  rw [hv] at this
  cases this
  exact ⟨H0', Ext.refl b, Rp.mono lo rv⟩
theorem wk_str {H0 : Hp} (z : Str) : WkD g fa H0 (Its z) (z.cps.toList.map fun c => .str ⟨#[c]⟩) := fun i H0' H' b lo => by
  refine ⟨fun d e => ?_, fun hl => ?_⟩
  · rw [List.getElem?_map] at e
    cases e1 : z.cps.toList[i]? with
    | none => rw [e1] at e; cases e
    | some c =>
      rw [e1] at e
      cases e
      have hi : i < z.cps.size := by
        have := (List.getElem?_eq_some_iff.mp e1).1
        simpa using this
      refine ⟨hi, fun x H'' ⟨e2, c', h1, h2⟩ => ?_⟩
      subst e2 h2
      have : z.cps[i]? = some c := by rw [← Array.getElem?_toList]; exact e1
      rw [h1] at this
      cases this
      exact ⟨H0', Ext.refl b, .str _⟩
  · rw [List.length_map, Array.length_toList] at hl
    exact hl
theorem wk_range {H0 : Hp} (lo : Int) (n : Nat) : WkD g fa H0 (Itr lo n) (intR lo n) := fun i H0' H' b l => by
  unfold intR
  refine ⟨fun d e => ?_, fun hl => ?_⟩
  · rw [List.getElem?_map] at e
    by_cases hi : i < n
    · rw [List.getElem?_range hi] at e
      cases e
      refine ⟨hi, fun x H'' ⟨e1, e2⟩ => ?_⟩
      subst e1 e2
      exact ⟨H0', Ext.refl b, .int _⟩
    · rw [List.getElem?_eq_none (by rw [List.length_range]; omega)] at e; cases e
  · rw [List.length_map, List.length_range] at hl
    exact hl
theorem wk_own {H0 H : Hp} {a : Addr} {xs : List V} {ds : List D} (b0 : Bs g fa H0 H) (h : H a = some (.lst xs)) (r : RpAll g fa H0 xs ds) : WkE g fa H0 H (Itl g.K a) ds := fun i H0' H' x0 => by
  have ha : H' a = some (.lst xs) := x0.hi _ _ (fne_lst b0 h) h
  refine ⟨fun d e => ?_, fun hl => ⟨xs, .inl (.inl ha), by rw [r.len]; exact hl⟩⟩
  obtain ⟨v, hv, rv⟩ := r.get' e
  refine ⟨⟨xs, v, .inl (.inl ha), hv⟩, fun x H'' ⟨e1, e2⟩ => ?_⟩
  subst e1
  have := e2 xs (.inl (.inl ha))
  rw [hv] at this
  cases this
  exact ⟨H0', Ext.refl x0.bs, Rp.mono x0.lo rv⟩
theorem iter_rv {ps : List (Addr × Obj)} {σ : L2.St} {H0 H : Hp} {s : Shared} {v : V} {u : Value} {d : D} {R : It → Hp → Prop} (hK : X.K = g.K) (I : Inv X ps σ H s) (b : Bs g fa H0 H) (rv : Rv g fa H0 H v d) (ru : RelV v u)
    (w : WP (itmD d) fun ds => ds.length ≤ sizeLine → ∀ J, WkE g fa H0 H J ds → (Rp g fa H0 v d → WkD g fa H0 J ds) → R J H) : wpAny (model X.prog X.w) X.A (pyIter u) (PIE X ps σ tg R) X.xe s := by
  cases d with
  | list ds =>
    obtain ⟨a, xs, rfl, ha, r⟩ := rv.list b
    cases ru
    obtain ⟨its, rv', p, hz⟩ := I.list (a := a) (xs := xs) (.inl (.inl ha))
    refine wpAny_pyIter_list p.isList (pi_one (tk := s.toks) I _ (turn_list a _) ⟨_, Heap.get?_push_size _ rfl, rfl, rfl⟩ (hK ▸ w (by rw [← r.len]; exact hz) _ (wk_own b ha r) fun rp => ?_))
    cases rp with
    | lst h q => 
      have e : _ := b.sub _ _ h
      rw [ha] at e
      cases e
      exact wk_list h q
  | tuple ds =>
    have rp := rv.data (fun _ z => by cases z)
    obtain ⟨a, xs, rfl, ha, r⟩ := rv.tuple b
    cases ru
    obtain ⟨its, rv', p, hz⟩ := I.tuple (a := a) (xs := xs) (hK ▸ ha)
    have k : WkD g fa H0 (Itt g.K a) ds := by
      cases rp with
      | tup h q => exact wk_tup h q
    exact wpAny_pyIter_tuple (show s.heap.IsTuple a its.toArray from p) (pi_one (tk := s.toks) I _ (turn_tuple a _) ⟨_, Heap.get?_push_size _ rfl, rfl, rfl⟩ (hK ▸ w (by rw [← r.len]; exact hz) _ k.e fun _ => k))
  | str z =>
    cases rv.str
    obtain ⟨t, rfl⟩ := ru
    obtain ⟨hc, w⟩ := wp_need w
    have q := w (by rw [List.length_map]; exact of_decide_eq_true hc) (Its z) (wk_str z).e fun _ => wk_str z
    cases ha : z.cps.all (· < 128)
    · exact wpAny_pyIter_wide ha (pi_one (tk := s.toks) I _ (turn_str _ z t "str_iterator" (.inr rfl)) ⟨_, Heap.get?_push_size _ rfl, rfl, rfl⟩ q)
    · exact wpAny_pyIter_ascii ha (pi_one (tk := s.toks) I _ (turn_str _ z t "str_ascii_iterator" (.inl rfl)) ⟨_, Heap.get?_push_size _ rfl, rfl, rfl⟩ q)
  | _ => exact w.elim
/-- over a list, a tuple, a text -/
theorem w_val (hK : X.K = g.K) (h : PE X E (tG g fa .p f)) : PI X tg E (tWD g fa fun ρ => (f ρ).bind itmD) := by
  refine ⟨fun ps s σ H R I ⟨H0, ρ, S, w⟩ => ?_⟩
  refine thn (h.run ps s σ H (fun v H1 => ∃ H1' d, Ext g fa H0 H H1' H1 ∧ Rp g fa H1' v d ∧ WP (itmD d) fun ds => ds.length ≤ sizeLine → ∀ J H0' H', Ext g fa H0 H H0' H' → WkD g fa H0' J ds → R J H') I ⟨H0, ρ, S, (WP.bind.mp w).mono fun d w v H1' H1 x1 r1 => ⟨H1', d, x1, r1, w⟩⟩) fun u s1 ⟨v, H1, I1, ru, H1', d, x1, r1, w⟩ => ?_
  exact iter_rv hK I1 x1.bs (.inl r1) ru (w.mono fun ds q hz J _ k => q hz J H1' H1 x1 (k r1))
/-- over an own list, by its name -/
theorem w_look (hK : X.K = g.K) (h : PE X E (tG g fa .v f)) : PI X tg E (tWE g fa fun ρ => (f ρ).bind itmD) := by
  refine ⟨fun ps s σ H R I ⟨H0, ρ, S, w⟩ => ?_⟩
  refine thn (h.run ps s σ H (fun v H1 => ∃ H1' d, Ext g fa H0 H H1' H1 ∧ Rv g fa H1' H1 v d ∧ WP (itmD d) fun ds => ds.length ≤ sizeLine → ∀ J H0' H', Ext g fa H0 H H0' H' → WkE g fa H0' H' J ds → R J H') I ⟨H0, ρ, S, (WP.bind.mp w).mono fun d w v H1' H1 x1 r1 => ⟨H1', d, x1, r1, w⟩⟩) fun u s1 ⟨v, H1, I1, ru, H1', d, x1, r1, w⟩ => ?_
  exact iter_rv hK I1 x1.bs r1 ru (w.mono fun ds q hz J k _ => q hz J H1' H1 x1 k)
theorem w_rng1 (hg : Gl X "range") (hm : X.mg "range" = none) (hs : starEach [E] X.env = [(false, eval E X.env)]) (h : PE X E (tG g fa .p f)) :
    PI X tg (.Call (.Name "range" p) [E] [] pos) (tWD g fa fun ρ => (f ρ).bind fun x => (intD x).bind fun i => need (decide (-(2 ^ 62) ≤ i ∧ i ≤ 1000000)) (.ret (intR 0 i.toNat))) :=
  pi_imp (pi_range1 hg hm (pa_cons h pa_nil hs) hs) fun σ H R ⟨H0, ρ, S, w⟩ => ⟨H0, ρ, S, (WP.bind.mp w).mono fun d w v H1' H1 x1 r1 => by
    obtain ⟨i, rfl, w⟩ := intD_ok (WP.bind.mp w)
    obtain ⟨hc, w⟩ := wp_need w
    obtain ⟨c1, c2⟩ := of_decide_eq_true hc
    cases r1
    refine ⟨i, rfl, c1, by omega, w ?_ _ H1' H1 x1 (wk_range 0 i.toNat)⟩
    unfold intR
    rw [List.length_map, List.length_range, sizeLine_eq]
    omega⟩
theorem w_rng2 (hg : Gl X "range") (hm : X.mg "range" = none) (hs : starEach [E1, E2] X.env = [(false, eval E1 X.env), (false, eval E2 X.env)]) (hs1 : starEach [E2] X.env = [(false, eval E2 X.env)]) (h1 : PE X E1 (tG g fa .p f1)) (h2 : PE X E2 (tG g fa .p f2)) :
    PI X tg (.Call (.Name "range" p) [E1, E2] [] pos) (tWD g fa fun ρ => (f1 ρ).bind fun x => (f2 ρ).bind fun y => (intD x).bind fun i => (intD y).bind fun j => need (decide (-(2 ^ 62) ≤ i ∧ i < 2 ^ 62 ∧ -(2 ^ 62) ≤ j ∧ j < 2 ^ 62 ∧ j - i ≤ 1000000)) (.ret (intR i (j - i).toNat))) :=
  pi_imp (pi_range2 hg hm (pa_cons h1 (pa_cons h2 pa_nil hs1) (by rw [hs, hs1])) hs hs1) fun σ H R ⟨H0, ρ, S, w⟩ => ⟨H0, ρ, S, (WP.bind.mp w).mono fun d w v H1' H1 x1 r1 => ⟨H1', ρ, S.ext x1, (WP.bind.mp w).mono fun e w u H2' H2 x2 r2 => by
    obtain ⟨i, e1, w1⟩ := intD_ok (WP.bind.mp w)
    obtain ⟨j, e2, w2⟩ := intD_ok (WP.bind.mp w1)
    obtain ⟨hc, w3⟩ := wp_need w2
    obtain ⟨c1, c2, c3, c4, c5⟩ := of_decide_eq_true hc
    subst e1 e2
    cases r1
    cases r2
    refine ⟨i, j, rfl, ⟨c1, c2, c3, c4⟩, w3 ?_ _ H2' H2 (x1.trans x2) (wk_range i _)⟩
    unfold intR
    rw [List.length_map, List.length_range, sizeLine_eq]
    omega⟩⟩
/-! ### comprehensions -/
theorem Ext.updP {H0 H H0' H' : Hp} (x : Ext g fa H0 H H0' H') {D' : Addr} {xs ys : List V} (hd : H D' = none) (h0 : H0' D' = none) (h : H' D' = some (.lst xs)) : Ext g fa H0 H H0' (upd H' D' (.lst ys)) := by
  have hf := fne_lst x.bs h
  refine ⟨⟨fun a o e => ?_, fun a e => ?_⟩, x.lo, fun a o ha e => ?_, x.nw⟩
  · rw [upd_ne (ne_of_none e h0)]; exact x.bs.sub a o e
  · obtain ⟨⟨ca, ns, x', y, z, h1, h2⟩, hn⟩ := x.bs.fd a e
    exact ⟨⟨ca, ns, x', y, z, by rw [upd_ne (fun q : a = D' => hf (by rw [← q]; exact e))]; exact h1, h2⟩, hn⟩
  · rw [upd_ne (ne_of_none e hd)]; exact x.hi a o ha e
/-- a comprehension's meaning -/
def lcF (fi : Ev → M (List D)) (ft : D → Ev → M Ev) (b : Ev → M Bool) (fe : Ev → M D) (vs : List Nat) : Ev → M D := fun ρ => (fi ρ).bind fun ds => need (datOnly ρ vs) ((lcGo (fun d => ft d (wip ρ vs)) b fe ds).bind fun ys => .ret (.list ys))
theorem lc_imp {ts vs : List Nat} {ft : D → Ev → M Ev} {b : Ev → M Bool} {fe : Ev → M D} {σ : L2.St} {H : Hp} {Q : VK} (hts : ∀ i ∈ ts, i ∈ vs) (h : tG g fa .f (lcF fi ft b fe vs) σ H Q) : tLc (tWE g fa fi) (gT g fa ts ft) (tB1 g fa b) (tG g fa .p fe) vs σ H Q := by
  obtain ⟨H0, ρ, R, w⟩ := h
  refine ⟨H0, ρ, R, (WP.bind.mp w).mono fun ds w hz J H1' H1 x1 wk Da hD => ?_⟩
  obtain ⟨hdo, w⟩ := wp_need w
  have w := WP.bind.mp w
  refine ⟨fun i m Hc => ∃ H0c acc accD, i + m = ds.length ∧ Ext g fa H1' H1 H0c Hc ∧ H0c Da = none ∧ Hc Da = some (.lst acc) ∧ RpAll g fa H0c acc accD ∧ acc.length ≤ i ∧
    WP (lcGo (fun d => ft d (wip ρ vs)) b fe (ds.drop i)) fun ys => ∀ v H0' H', Ext g fa H0 H H0' H' → Rel g fa .f H H0' H' v (.list (accD ++ ys)) → Q v H', ?_, fun i m Hc hW => ?_⟩
  · have h0 : H1' Da = none := by
      cases e : H1' Da with
      | none => rfl
      | some o => rw [x1.bs.sub _ _ e] at hD; cases hD
    exact ⟨ds.length, H1', [], [], by omega, x1.bs.allocP hD, h0, upd_same, .nil, Nat.le_refl _, w⟩
  · obtain ⟨H0c, acc, accD, em, xc, h0, hDc, ra, hl, w⟩ := hW
    by_cases hlt : i < ds.length
    · obtain ⟨d, hd, hdr⟩ : ∃ d, ds[i]? = some d ∧ ds.drop i = d :: ds.drop (i + 1) := ⟨ds[i], List.getElem?_eq_getElem hlt, List.drop_eq_getElem_cons hlt⟩
      obtain ⟨go, yl⟩ := (wk i H0c Hc xc).1 d hd
      refine .inr ⟨go, fun H' => ∃ m', m' < m ∧ _, fun H' h => h, fun x H' hy => ?_⟩
      obtain ⟨H02, x2, rx⟩ := yl x H' hy
      rw [hdr] at w
      have xx := x1.trans (xc.trans x2)
      have R2 := (R.ext xx).wipe hdo
      refine ⟨H02, _, d, R2, rx, (WP.bind.mp w).mono fun ρ2 w σ2 off _ R3 => ⟨(off.mono fun i hi => hts i hi).wipe, ?_⟩⟩
      refine ⟨H02, ρ2, R3, (WP.bind.mp w).mono fun k w H03 H3 x3 => ?_⟩
      have x23 := x2.trans x3
      have fin : ∀ {H0e He : Hp} {acc' : List V} {accD' : List D}, Ext g fa H1' H1 H0e He → H0e Da = none → He Da = some (.lst acc') → RpAll g fa H0e acc' accD' → acc'.length ≤ i + 1 →
          (WP (lcGo (fun d => ft d (wip ρ vs)) b fe (ds.drop (i + 1))) fun ys => ∀ v H0' H', Ext g fa H0 H H0' H' → Rel g fa .f H H0' H' v (.list (accD' ++ ys)) → Q v H') →
          ∃ m', m' < m ∧ ∃ H0c acc accD, (i + 1) + m' = ds.length ∧ Ext g fa H1' H1 H0c He ∧ H0c Da = none ∧ He Da = some (.lst acc) ∧ RpAll g fa H0c acc accD ∧ acc.length ≤ i + 1 ∧
            WP (lcGo (fun d => ft d (wip ρ vs)) b fe (ds.drop (i + 1))) fun ys => ∀ v H0' H', Ext g fa H0 H H0' H' → Rel g fa .f H H0' H' v (.list (accD ++ ys)) → Q v H' :=
        fun {H0e He acc' accD'} y1 y2 y3 y4 y5 y6 => ⟨m - 1, by omega, H0e, acc', accD', by omega, y1, y2, y3, y4, y5, y6⟩
      have keep : ∀ {H0e He : Hp}, Ext g fa H0c Hc H0e He → H0e Da = none ∧ He Da = some (.lst acc) := fun {H0e He} y => by
        refine ⟨?_, y.hi _ _ (fne_lst xc.bs hDc) hDc⟩
        rcases y.nw Da h0 with q | q
        · exact q
        · rw [hDc] at q; cases q
      cases k with
      | true =>
        dsimp only at w ⊢
        rw [if_pos rfl] at w ⊢
        refine ⟨H03, ρ2, R3.ext x3, (WP.bind.mp w).mono fun y w vy H04 H4 x4 ry => ?_⟩
        have x24 := x23.trans x4
        obtain ⟨k1, k2⟩ := keep x24
        have hlen : acc.length < sizeLine := by omega
        refine ⟨acc, k2, hlen, fin ((xc.trans x24).updP hD k1 k2) k1 upd_same ((ra.mono x24.lo).append (.one ry)) (by rw [List.length_append]; simp; omega) ((WP.bind.mp w).mono fun ys q v H0' H' => ?_)⟩
        rw [List.append_assoc]
        exact q v H0' H'
      | false =>
        dsimp only at w ⊢
        rw [if_neg (by intro z; cases z)] at w ⊢
        obtain ⟨k1, k2⟩ := keep x23
        exact fin (xc.trans x23) k1 k2 (ra.mono x23.lo) (by omega) w
    · have ei : ds.drop i = [] := List.drop_eq_nil_of_le (by omega)
      rw [ei] at w
      have w : ∀ v H0' H', Ext g fa H0 H H0' H' → Rel g fa .f H H0' H' v (.list (accD ++ [])) → Q v H' := w
      rw [List.append_nil] at w
      refine .inl ⟨(wk i H0c Hc xc).2 (by omega), w (.ref Da) H0c Hc (x1.trans xc) ⟨Da, rfl, x1.free R.bs hD, h0, acc, accD, rfl, hDc, ra⟩⟩
theorem s_lc {elt iter : Expr} {ifs : List Expr} {scope : Scope} {own : List (Str × Nat)} {ts : List Nat} {ft : D → Ev → M Ev} {b : Ev → M Bool} {fe : Ev → M D} (hc : X.calm = true) (hN : X.N.Nodup) (hi : PI X tg iter (tWE g fa fi)) (ok : BlkOk X.N X.env.scope scope own)
    (hg : ∀ (s : Shared) (H : Hp) (C : Addr) (cl : List (Str × Addr)) (fp : List Addr), PG (X.blk s H scope (compEnvC scope cl C X.env) fp) tg (gT g fa ts ft))
    (ht : ∀ (s : Shared) (H : Hp) (C : Addr) (cl : List (Str × Addr)) (fp : List Addr), PTs (X.blk s H scope (compEnvC scope cl C X.env) fp) ifs (tB1 g fa b))
    (he : ∀ (s : Shared) (H : Hp) (C : Addr) (cl : List (Str × Addr)) (fp : List Addr), PE (X.blk s H scope (compEnvC scope cl C X.env) fp) elt (tG g fa .p fe))
    (hs : ∀ x, foldedSetIterable iter X.env x = pure x) (hts : ∀ i ∈ ts, i ∈ own.map (·.2)) :
    PE X (.ListComp elt [⟨tg, iter, ifs, 0⟩] scope pos) (tG g fa .f (lcF fi ft b fe (own.map (·.2)))) :=
  pe_imp (pe_lc hc hN hi ok hg ht he hs) fun σ H Q h => lc_imp hts h
end
end Pf
/-! PfI: statements by data. -/
namespace Pf
open PySem PySem.Spec PyProof.Rows L2

/-- since the def's entry -/
structure Ent (g : Gc) (fa : Option Addr) (H0s Hs Z H0 H : Hp) (σ : L2.St) (ρ : Ev) : Prop where
  x : Ext g fa H0s Hs H0 H
  own : ∀ (i : Nat) d a, ρ[i]? = some (some (SV.own d)) → σ[i]? = some (some (.ref a)) → Hs a = none
  b0 : Bs g fa H0s Hs
  z : ∀ a o, Z a = some o → H0 a = some o
section
variable {g : Gc} {fa : Option Addr} {H0s Hs Z H0 H H0' H' : Hp} {σ σ' : L2.St} {ρ ρ' : Ev}
theorem Ent.ext (e : Ent g fa H0s Hs Z H0 H σ ρ) (x : Ext g fa H0 H H0' H') : Ent g fa H0s Hs Z H0' H' σ ρ := ⟨e.x.trans x, e.own, e.b0, fun a o h => x.lo a o (e.z a o h)⟩
theorem Ent.kp (e : Ent g fa H0s Hs Z H0 H σ ρ) (k : Kp σ ρ σ' ρ') : Ent g fa H0s Hs Z H0 H σ' ρ' := ⟨e.x, fun i d a h1 h2 => e.own i d a (k i d h1).1 ((k i d h1).2 ▸ h2), e.b0, e.z⟩
/-- an own list changed -/
theorem RepS.chg (R : RepS g fa H0 H σ ρ) {i : Nat} {d : D} {a : Addr} {xs ys : List V} {es : List D} (hi : ρ[i]? = some (some (.own d))) (hs : σ[i]? = some (some (.ref a))) (h : H a = some (.lst xs)) (r : RpAll g fa H0 ys es) :
    RepS g fa H0 (upd H a (.lst ys)) σ (Pf.chg ρ i es) := by
  have hf := fne_lst R.bs h
  have ho : H0 a = none := by
    obtain ⟨v, h1, a', e1, o⟩ := R.slot i _ hi
    rw [hs] at h1
    cases h1
    cases e1
    exact o.1
  have hlt : i < ρ.length := (List.getElem?_eq_some_iff.mp hi).1
  have ci : ∀ k sv, (Pf.chg ρ i es)[k]? = some (some sv) → (k = i ∧ sv = .own (.list es)) ∨ (k ≠ i ∧ ρ[k]? = some (some sv) ∧ ∀ d, sv ≠ .bor d) := fun k sv e => by
    unfold Pf.chg at e
    by_cases hk : i = k
    · subst hk
      rw [List.getElem?_set_self (by rw [clr_len]; exact hlt)] at e
      exact .inl ⟨rfl, by simpa using e.symm⟩
    · rw [List.getElem?_set_ne hk] at e
      exact .inr ⟨fun z => hk z.symm, clr_get e⟩
  refine ⟨⟨fun b o e => ?_, fun b e => ?_⟩, ?_, fun k sv e => ?_, fun k j d e v h1 h2 h3 h4 => ?_⟩
  · rw [upd_ne (ne_of_none e ho)]; exact R.bs.sub b o e
  · obtain ⟨⟨ca, ns, x', y, z, h1, h2⟩, hn⟩ := R.bs.fd b e
    exact ⟨⟨ca, ns, x', y, z, by rw [upd_ne (fun q : b = a => hf (by rw [← q]; exact e))]; exact h1, h2⟩, hn⟩
  · unfold Pf.chg; rw [List.length_set, clr_len]; exact R.len
  · rcases ci k sv e with ⟨rfl, rfl⟩ | ⟨hk, e1, hb⟩
    · exact ⟨.ref a, hs, a, rfl, ho, ys, es, rfl, upd_same, r⟩
    · obtain ⟨v, hv, s⟩ := R.slot k sv e1
      refine ⟨v, hv, ?_⟩
      cases sv with
      | dat d => exact s
      | own d' =>
        obtain ⟨b, rfl, o1, xs', ds', e2, e3, e4⟩ := s
        have hne : b ≠ a := fun z => by
          subst z
          exact hk (R.own k i d' d _ e1 hi hv hs)
        exact ⟨b, rfl, o1, xs', ds', e2, by rw [upd_ne hne]; exact e3, e4⟩
      | bor d => exact absurd rfl (hb d)
  · have tr : ∀ k d, (Pf.chg ρ i es)[k]? = some (some (SV.own d)) → ∃ d', ρ[k]? = some (some (SV.own d')) := fun k d h => by
      rcases ci k _ h with ⟨rfl, _⟩ | ⟨_, e1, _⟩
      · exact ⟨_, hi⟩
      · exact ⟨_, e1⟩
    obtain ⟨d1, q1⟩ := tr k d h1
    obtain ⟨d2, q2⟩ := tr j e h2
    exact R.own k j d1 d2 v q1 q2 h3 h4
theorem Ent.chg (e : Ent g fa H0s Hs Z H0 H σ ρ) {i : Nat} {d : D} {a : Addr} {xs ys : List V} {es : List D} (R : RepS g fa H0 H σ ρ) (hi : ρ[i]? = some (some (.own d))) (hs : σ[i]? = some (some (.ref a))) (h : H a = some (.lst xs)) :
    Ent g fa H0s Hs Z H0 (upd H a (.lst ys)) σ (Pf.chg ρ i es) := by
  have ho : H0 a = none := by
    obtain ⟨v, h1, a', e1, o⟩ := R.slot i _ hi
    rw [hs] at h1
    cases h1
    cases e1
    exact o.1
  refine ⟨e.x.updP (e.own i d a hi hs) ho h, fun k d' b h1 h2 => ?_, e.b0, e.z⟩
  unfold Pf.chg at h1
  by_cases hk : i = k
  · subst hk
    rw [hs] at h2
    cases h2
    exact e.own i d a hi hs
  · rw [List.getElem?_set_ne hk] at h1
    exact e.own k d' b (clr_get h1).1 h2
/-- an own slot's list -/
theorem RepS.ownAt (R : RepS g fa H0 H σ ρ) {i : Nat} {ds : List D} (hi : ρ[i]? = some (some (.own (.list ds)))) : ∃ a xs, σ[i]? = some (some (.ref a)) ∧ H0 a = none ∧ H a = some (.lst xs) ∧ RpAll g fa H0 xs ds := by
  obtain ⟨v, h1, a, rfl, h0, xs, ds', e, h2, h3⟩ := R.slot i _ hi
  cases e
  exact ⟨a, xs, h1, h0, h2, h3⟩
/-- what an expression leaves of an own list -/
theorem Ext.ownAt (x : Ext g fa H0 H H0' H') (b : Bs g fa H0 H) {a : Addr} {xs : List V} (h : H a = some (.lst xs)) : H' a = some (.lst xs) := x.hi a _ (fne_lst b h) h
end

def tS (g : Gc) (fa : Option Addr) (H0s Hs Z : Hp) (f : Ev → M Out) : TS := fun D σ H =>
  ∃ H0 ρ, RepS g fa H0 H σ ρ ∧ Ent g fa H0s Hs Z H0 H σ ρ ∧ WP (f ρ) fun o => match o with
    | .nx ρ' => ∀ σ' H0' H', RepS g fa H0' H' σ' ρ' → Ent g fa H0s Hs Z H0' H' σ' ρ' → D.nx σ' H'
    | .ct ρ' => ∀ σ' H0' H', RepS g fa H0' H' σ' ρ' → Ent g fa H0s Hs Z H0' H' σ' ρ' → D.ct σ' H'
    | .bk ρ' => ∀ σ' H0' H', RepS g fa H0' H' σ' ρ' → Ent g fa H0s Hs Z H0' H' σ' ρ' → D.bk σ' H'
    | .rt d => ∀ v H0' H', Ext g fa H0s Hs H0' H' → Rp g fa H0' v d → D.rt v H'
theorem ps_imp {X : Cx} {st : Stmt} {t t' : TS} (h : PS X st t) (i : ∀ D σ H, t' D σ H → t D σ H) : PS X st t' := ⟨fun ps s σ H D I q => h.run ps s σ H D I (i D σ H q)⟩
theorem pss_imp {X : Cx} {st : List Stmt} {t t' : TS} (h : PSs X st t) (i : ∀ D σ H, t' D σ H → t D σ H) : PSs X st t' := ⟨fun ps s σ H D I q => h.run ps s σ H D I (i D σ H q)⟩

section
variable {X : Cx} {g : Gc} {fa : Option Addr} {H0s Hs Z : Hp} {E E1 E2 E3 tg : Expr} {st : Stmt} {sts rest : List Stmt} {f f1 f2 : Ev → M D} {b1 : Ev → M Bool} {o1 o2 : Ev → M Out} {pos p : Pos}

theorem b_nil : PSs X [] (tS g fa H0s Hs Z fun ρ => .ret (.nx ρ)) := pss_imp pss_nil fun D σ H ⟨H0, ρ, R, e, w⟩ => w σ H0 H R e
theorem b_cons (h1 : PS X st (tS g fa H0s Hs Z o1)) (h2 : PSs X rest (tS g fa H0s Hs Z o2)) : PSs X (st :: rest) (tS g fa H0s Hs Z fun ρ => (o1 ρ).bind fun o => match o with
    | .nx ρ1 => o2 ρ1
    | o => .ret o) := pss_imp (pss_cons h1 h2) fun D σ H ⟨H0, ρ, R, e, w⟩ => ⟨H0, ρ, R, e, (WP.bind.mp w).mono fun o w => by
  cases o with
  | nx ρ1 => exact fun σ' H0' H' R' e' => ⟨H0', ρ1, R', e', w⟩
  | ct ρ1 => exact w
  | bk ρ1 => exact w
  | rt d => exact w⟩
theorem frz_ok {ρ : Ev} {i : Nat} {Q : Ev → Prop} (w : WP (frzD ρ i) Q) : ∃ d, ρ[i]? = some (some (.own d)) ∧ Q ((clr ρ).set i (some (.dat d))) := by
  unfold frzD at w
  split at w
  · exact ⟨_, by assumption, w⟩
  · exact w.elim
theorem b_frz {i : Nat} (h : PSs X sts (tS g fa H0s Hs Z o2)) : PSs X sts (tS g fa H0s Hs Z fun ρ => ((frzD ρ i).bind fun ρ1 => M.ret (Out.nx ρ1)).bind fun o => match o with
    | .nx ρ1 => o2 ρ1
    | o => .ret o) := pss_imp h fun D σ H ⟨H0, ρ, R, e, w⟩ => by
  obtain ⟨d, hi, w⟩ := frz_ok (WP.bind.mp (WP.bind.mp w))
  obtain ⟨v, hv, a, rfl, h0, xs, ds, rfl, ha, ra⟩ := R.slot i _ hi
  have hlt : i < ρ.length := (List.getElem?_eq_some_iff.mp hi).1
  have x : Ext g fa H0s Hs (upd H0 a (.lst xs)) H := e.x.freeze (e.own i _ a hi hv) h0 ha
  have lo : ∀ b o, H0 b = some o → upd H0 a (.lst xs) b = some o := fun b o q => by rw [upd_ne (ne_of_none q h0)]; exact q
  have ci : ∀ k sv, ((clr ρ).set i (some (.dat (.list ds))))[k]? = some (some sv) → (k = i ∧ sv = .dat (.list ds)) ∨ (k ≠ i ∧ ρ[k]? = some (some sv) ∧ ∀ d, sv ≠ .bor d) := fun k sv e => by
    by_cases hk : i = k
    · subst hk
      rw [List.getElem?_set_self (by rw [clr_len]; exact hlt)] at e
      exact .inl ⟨rfl, by simpa using e.symm⟩
    · rw [List.getElem?_set_ne hk] at e
      exact .inr ⟨fun z => hk z.symm, clr_get e⟩
  refine ⟨upd H0 a (.lst xs), _, ⟨x.bs, by rw [List.length_set, clr_len]; exact R.len, fun k sv q => ?_, fun k j d' e' v h1 h2 h3 h4 => ?_⟩, ⟨x, fun k d' b h1 h2 => ?_, e.b0, fun b o q => lo b o (e.z b o q)⟩, w⟩
  · rcases ci k sv q with ⟨rfl, rfl⟩ | ⟨hk, e1, hb⟩
    · exact ⟨_, hv, .lst upd_same (ra.mono lo)⟩
    · obtain ⟨u, hu, s⟩ := R.slot k sv e1
      refine ⟨u, hu, ?_⟩
      cases sv with
      | dat d => exact Rp.mono lo s
      | own d' =>
        obtain ⟨b, rfl, o1, xs', ds', e2, e3, e4⟩ := s
        have hne : b ≠ a := fun z => by
          subst z
          exact hk (R.own k i d' _ _ e1 hi hu hv)
        exact ⟨b, rfl, by rw [upd_ne hne]; exact o1, xs', ds', e2, e3, e4.mono lo⟩
      | bor d => exact absurd rfl (hb d)
  · rcases ci k _ h1 with ⟨_, z⟩ | ⟨_, q1, _⟩
    · cases z
    · rcases ci j _ h2 with ⟨_, z⟩ | ⟨_, q2, _⟩
      · cases z
      · exact R.own k j d' e' v q1 q2 h3 h4
  · rcases ci k _ h1 with ⟨_, z⟩ | ⟨_, q1, _⟩
    · cases z
    · exact e.own k d' b q1 h2
theorem x_ret (h : PE X E (tG g fa .p f)) : PS X (.Return (some E) pos) (tS g fa H0s Hs Z fun ρ => (f ρ).bind fun d => .ret (.rt d)) :=
  ps_imp (ps_ret h) fun D σ H ⟨H0, ρ, R, e, w⟩ => ⟨H0, ρ, R, (WP.bind.mp w).mono fun d w v H1' H1 x1 r1 => w v H1' H1 (e.x.trans x1) r1⟩
theorem x_retV {i : Nat} {x : Str} (hN : X.N[i]? = some x) (hv : Vis X.env.scope x) (h1 : (x == ("__debug__" : Str)) = false) (h2 : (x == ("__classdict__" : Str)) = false) : PS X (.Return (some (.Name x p)) pos) (tS g fa H0s Hs Z fun ρ => (gr ρ i).bind fun d => .ret (.rt d)) :=
  ps_imp (ps_ret (pe_var hN hv h1 h2)) fun D σ H ⟨H0, ρ, R, e, w⟩ => by
    obtain ⟨sv, hi, w⟩ := gr_ok (WP.bind.mp w)
    have w : ∀ v H0' H', Ext g fa H0s Hs H0' H' → Rp g fa H0' v sv.d → D.rt v H' := w
    obtain ⟨v, hv, s⟩ := R.slot i sv hi
    refine ⟨v, hv, ?_⟩
    have own : ∀ (j : Nat) d a, ρ[j]? = some (some (.own d)) → σ[j]? = some (some (.ref a)) → OwnAt g fa H0 H a d → (∀ v H0' H', Ext g fa H0s Hs H0' H' → Rp g fa H0' v d → D.rt v H') → D.rt (.ref a) H := fun j d a hj hs ⟨h0, xs, ds, e1, ha, ra⟩ w => by
      subst e1
      refine w _ _ _ (e.x.freeze (e.own j _ a hj hs) h0 ha) (.lst upd_same (ra.mono fun b o q => ?_))
      rw [upd_ne (ne_of_none q h0)]; exact q
    cases sv with
    | dat d => exact w v H0 H e.x s
    | own d =>
      obtain ⟨a, rfl, o⟩ := s
      exact own i d a hi hv o w
    | bor d =>
      rcases s with s | ⟨j, h3, h4⟩
      · exact w v H0 H e.x s
      · obtain ⟨v', hv', a, rfl, o⟩ := R.slot j _ h4
        rw [h3] at hv'
        cases hv'
        exact own j d a h4 h3 o w
theorem x_retN : PS X (.Return none pos) (tS g fa H0s Hs Z fun ρ => .ret (.rt .none)) := ps_imp ps_retN fun D σ H ⟨H0, ρ, R, e, w⟩ => w .non H0 H e.x .non
theorem x_expr (hs : swapsWith E none pos.line X.env = pure false) (h : PE X E (tG g fa .p f)) : PS X (.Expr E pos) (tS g fa H0s Hs Z fun ρ => (f ρ).bind fun _ => .ret (.nx ρ)) :=
  ps_imp (ps_expr h hs) fun D σ H ⟨H0, ρ, R, e, w⟩ => ⟨H0, ρ, R, (WP.bind.mp w).mono fun d w v H1' H1 x1 r1 => w σ H1' H1 (R.ext x1) (e.ext x1)⟩
theorem x_pas : PS X (.Pass pos) (tS g fa H0s Hs Z fun ρ => .ret (.nx ρ)) := ps_imp ps_pass fun D σ H ⟨H0, ρ, R, e, w⟩ => w σ H0 H R e
theorem x_brk : PS X (.Break pos) (tS g fa H0s Hs Z fun ρ => .ret (.bk ρ)) := ps_imp ps_break fun D σ H ⟨H0, ρ, R, e, w⟩ => w σ H0 H R e
theorem x_cont : PS X (.Continue pos) (tS g fa H0s Hs Z fun ρ => .ret (.ct ρ)) := ps_imp ps_continue fun D σ H ⟨H0, ρ, R, e, w⟩ => w σ H0 H R e
theorem x_never : PS X st (tS g fa H0s Hs Z fun _ => .bad) := ps_imp ps_never fun D σ H ⟨_, _, _, _, w⟩ => w
theorem x_if (hc : PT X E (tB1 g fa b1)) (h1 : PSs X sts (tS g fa H0s Hs Z o1)) (h2 : PSs X rest (tS g fa H0s Hs Z o2)) : PS X (.If E sts rest pos) (tS g fa H0s Hs Z fun ρ => (b1 ρ).bind fun k => if k = true then o1 ρ else o2 ρ) :=
  ps_imp (ps_if hc h1 h2) fun D σ H ⟨H0, ρ, R, e, w⟩ => ⟨H0, ρ, R, (WP.bind.mp w).mono fun k w H1' H1 x1 => by
    cases k with
    | true =>
      rw [if_pos rfl] at w ⊢
      exact ⟨H1', ρ, R.ext x1, e.ext x1, w⟩
    | false =>
      rw [if_neg (by intro z; cases z)] at w ⊢
      exact ⟨H1', ρ, R.ext x1, e.ext x1, w⟩⟩
theorem x_while (hx : X.xe = fun _ _ => False) (hc : PT X E (tB1 g fa b1)) (h1 : PSs X sts (tS g fa H0s Hs Z o1)) (n : Nat) : PS X (.While E sts [] pos) (tS g fa H0s Hs Z fun ρ => whGo b1 o1 n ρ) := by
  refine ps_imp (ps_while (hx ▸ PassesOwn.never) hc h1) fun D σ H ⟨H0, ρ, R, e, w⟩ => ?_
  refine ⟨fun m σ H => ∃ H0 ρ, RepS g fa H0 H σ ρ ∧ Ent g fa H0s Hs Z H0 H σ ρ ∧ WP (whGo b1 o1 m ρ) fun o => match o with
    | .nx ρ' => ∀ σ' H0' H', RepS g fa H0' H' σ' ρ' → Ent g fa H0s Hs Z H0' H' σ' ρ' → D.nx σ' H'
    | .ct ρ' => ∀ σ' H0' H', RepS g fa H0' H' σ' ρ' → Ent g fa H0s Hs Z H0' H' σ' ρ' → D.ct σ' H'
    | .bk ρ' => ∀ σ' H0' H', RepS g fa H0' H' σ' ρ' → Ent g fa H0s Hs Z H0' H' σ' ρ' → D.bk σ' H'
    | .rt d => ∀ v H0' H', Ext g fa H0s Hs H0' H' → Rp g fa H0' v d → D.rt v H', ⟨n, H0, ρ, R, e, w⟩, fun m σ H hW => ?_⟩
  obtain ⟨H0, ρ, R, e, w⟩ := hW
  cases m with
  | zero => exact w.elim
  | succ m =>
    unfold whGo at w
    refine ⟨H0, ρ, R, (WP.bind.mp w).mono fun k w H1' H1 x1 => ?_⟩
    cases k with
    | true =>
      rw [if_pos rfl] at w ⊢
      refine ⟨fun σ' H' => ∃ m', m' < m + 1 ∧ _, fun σ' H' h => h, H1', ρ, R.ext x1, e.ext x1, (WP.bind.mp w).mono fun o w => ?_⟩
      cases o with
      | nx ρ2 => exact fun σ' H0' H' R' e' => ⟨m, Nat.lt_succ_self _, H0', ρ2, R', e', w⟩
      | ct ρ2 => exact fun σ' H0' H' R' e' => ⟨m, Nat.lt_succ_self _, H0', ρ2, R', e', w⟩
      | bk ρ2 => exact w
      | rt d => exact w
    | false =>
      rw [if_neg (by intro z; cases z)] at w ⊢
      exact w σ H1' H1 (R.ext x1) (e.ext x1)
theorem x_asg {ts : List Nat} {ft : D → Ev → M Ev} (hs : swapsWithSole [tg] E pos.line X.env = pure false) (hw : swappedStores [tg] E X.env = pure none) (hm : List.map (fun x => x.snd) (assignEach [tg] X.env) = [assign tg X.env])
    (h : PE X E (tG g fa .p f)) (hg : PG X tg (gT g fa ts ft)) : PS X (.Assign [tg] E pos) (tS g fa H0s Hs Z fun ρ => (f ρ).bind fun d => (ft d ρ).bind fun ρ1 => .ret (.nx ρ1)) :=
  ps_imp (ps_asg h hg hs hw hm) fun D σ H ⟨H0, ρ, R, e, w⟩ => ⟨H0, ρ, R, (WP.bind.mp w).mono fun d w v H1' H1 x1 r1 => ⟨H1', ρ, d, R.ext x1, r1, (WP.bind.mp w).mono fun ρ' w σ' off k R' => w σ' H1' H1 R' ((e.ext x1).kp k)⟩⟩
/-- what a store of a fresh list leaves -/
theorem own_new {H0 H H1' H1 : Hp} {σ : L2.St} {ρ : Ev} (R : RepS g fa H0 H σ ρ) (e : Ent g fa H0s Hs Z H0 H σ ρ) (x1 : Ext g fa H0 H H1' H1) (i : Nat) {a : Addr} {ds : List D} (hs : H a = none) (o : OwnAt g fa H1' H1 a (.list ds)) :
    RepS g fa H1' H1 (σ.set i (some (.ref a))) (put ρ i (.own (.list ds))) ∧ Ent g fa H0s Hs Z H1' H1 (σ.set i (some (.ref a))) (put ρ i (.own (.list ds))) := by
  have hn : ∀ (j : Nat) e' b, ρ[j]? = some (some (.own e')) → σ[j]? = some (some (.ref b)) → b ≠ a := fun j e' b h1 h2 z => by
    subst z
    obtain ⟨v, hv, a', rfl, _, xs, ds', _, ha, _⟩ := R.slot j _ h1
    rw [h2] at hv
    cases hv
    rw [hs] at ha; cases ha
  refine ⟨(R.ext x1).putO i o hn, (e.ext x1).x, fun k d b h1 h2 => ?_, e.b0, (e.ext x1).z⟩
  by_cases hk : i = k
  · subst hk
    by_cases hl : i < σ.length
    · rw [List.getElem?_set_self hl] at h2
      cases h2
      exact e.x.free e.b0 hs
    · rw [List.getElem?_eq_none (by rw [List.length_set]; omega)] at h2; cases h2
  · rw [List.getElem?_set_ne hk] at h2
    have : ρ[k]? = some (some (SV.own d)) := by
      unfold put at h1
      split at h1
      · rw [List.getElem?_set_ne hk] at h1; exact (clr_get h1).1
      · rw [List.getElem?_set_ne hk] at h1; exact h1
    exact e.own k d b this h2
/-- a fresh list into a slot -/
theorem own_imp {i : Nat} {D : Ends} {σ : L2.St} {H : Hp} (hf : isFr_ = true) (h : tS g fa H0s Hs Z (fun ρ => (f ρ).bind fun d => match d with
    | .list ds => M.ret (Out.nx (put ρ i (.own (.list ds))))
    | _ => .bad) D σ H) : tAsg (tG g fa .f f) (gName i) D σ H := by
  obtain ⟨H0, ρ, R, e, w⟩ := h
  refine ⟨H0, ρ, R, (WP.bind.mp w).mono fun d w v H1' H1 x1 r1 => ?_⟩
  cases d with
  | list ds =>
    obtain ⟨a, rfl, hs, o⟩ := r1
    obtain ⟨R', e'⟩ := own_new R e x1 i hs o
    exact w _ H1' H1 R' e'
  | _ => exact w.elim
theorem x_asgO {i : Nat} {x : Str} {p : Pos} (hN : X.N.Nodup) (hi : X.N[i]? = some x) (hx : Loc X.env.scope x) (hf : X.fn x = true ∨ X.env.scope.names.lookup x = some .local) (hs : swapsWith E (some (.Name x p)) pos.line X.env = pure false) (h : PE X E (tG g fa .f f)) :
    PS X (.Assign [.Name x p] E pos) (tS g fa H0s Hs Z fun ρ => (f ρ).bind fun d => match d with
    | .list ds => M.ret (Out.nx (put ρ i (.own (.list ds))))
    | _ => .bad) := ps_imp (ps_set hN hi hx h hs hf) fun D σ H h => own_imp (isFr_ := true) rfl h
/-- two at once -/
def mkW (o : Bool) (d : D) : M SV := if o = true then (lstD d).bind fun ds => .ret (.own (.list ds)) else .ret (.dat d)
def mdO (o : Bool) : Md := if o = true then .f else .p
theorem put2 {H0 H H1' H1 : Hp} {σ : L2.St} {ρ : Ev} (o : Bool) (R : RepS g fa H0 H σ ρ) (e : Ent g fa H0s Hs Z H0 H σ ρ) (x1 : Ext g fa H0 H H1' H1) (i : Nat) {v : V} {d : D} (r : Rel g fa (mdO o) H H1' H1 v d) {Q : SV → Prop} (w : WP (mkW o d) Q) :
    ∃ sv, Q sv ∧ RepS g fa H1' H1 (σ.set i (some v)) (put ρ i sv) ∧ Ent g fa H0s Hs Z H1' H1 (σ.set i (some v)) (put ρ i sv) := by
  cases o with
  | true =>
    obtain ⟨ds, rfl, w⟩ := lstD_ok (WP.bind.mp w)
    obtain ⟨a, rfl, hs, oa⟩ := r
    exact ⟨_, w, own_new R e x1 i hs oa⟩
  | false => exact ⟨_, w, (R.ext x1).putD i r, (e.ext x1).kp (Kp.put fun _ z => by cases z)⟩
theorem Rel.later {H0 H H1' H1 H2' H2 : Hp} {m : Md} {v : V} {d : D} (hm : m ≠ .v) (x1 : Ext g fa H0 H H1' H1) (x2 : Ext g fa H1' H1 H2' H2) (r : Rel g fa m H H1' H1 v d) : Rel g fa m H H2' H2 v d := by
  cases m with
  | p => exact Rp.mono x2.lo r
  | v => exact absurd rfl hm
  | f =>
    cases d with
    | list ds =>
      obtain ⟨a, rfl, hs, o⟩ := r
      exact ⟨a, rfl, hs, o.ext x1.bs x2⟩
    | none => exact Rp.mono x2.lo r
    | bool _ => exact Rp.mono x2.lo r
    | int _ => exact Rp.mono x2.lo r
    | str _ => exact Rp.mono x2.lo r
    | tuple _ => exact Rp.mono x2.lo r
    | dict _ => exact Rp.mono x2.lo r
theorem par_imp {i j : Nat} {oi oj : Bool} {σ : L2.St} {H : Hp} {D : Ends} (hij : i ≠ j) (h : tS g fa H0s Hs Z (fun ρ => (f1 ρ).bind fun x => (f2 ρ).bind fun y => (mkW oi x).bind fun v => (mkW oj y).bind fun w => M.ret (Out.nx (put (put ρ i v) j w))) D σ H) :
    tPar i j (tCons (tG g fa (mdO oi) f1) (tCons (tG g fa (mdO oj) f2) tNil)) D σ H := by
  obtain ⟨H0, ρ, R, e, w⟩ := h
  refine ⟨H0, ρ, R, (WP.bind.mp w).mono fun d w v H1' H1 x1 r1 => ⟨H1', ρ, R.ext x1, (WP.bind.mp w).mono fun d2 w v2 H2' H2 x2 r2 => ⟨v, v2, rfl, ?_⟩⟩⟩
  obtain ⟨sv, w, R1, e1⟩ := put2 oi R e x1 i r1 (WP.bind.mp w)
  obtain ⟨sv2, w, R2, e2⟩ := put2 oj R1 e1 x2 j r2 (WP.bind.mp w)
  exact w _ H2' H2 R2 e2
theorem par_imp2 {K : PySem.W.Frag} {i j : Nat} {oi oj : Bool} {σ : L2.St} {H : Hp} {D : Ends} (hij : i ≠ j) (h : tS g fa H0s Hs Z (fun ρ => (f1 ρ).bind fun x => (f2 ρ).bind fun y => (mkW oi x).bind fun v => (mkW oj y).bind fun w => M.ret (Out.nx (put (put ρ i v) j w))) D σ H) :
    tAsg (tTup (tCons (tG g fa (mdO oi) f1) (tCons (tG g fa (mdO oj) f2) tNil))) (gTup K 2 (gCons (gName i) (gCons (gName j) gNil))) D σ H := by
  obtain ⟨H0, ρ, R, e, w⟩ := h
  refine ⟨H0, ρ, R, (WP.bind.mp w).mono fun d w v H1' H1 x1 r1 => ⟨H1', ρ, R.ext x1, (WP.bind.mp w).mono fun d2 w v2 H2' H2 x2 r2 => ⟨by show 2 ≤ sizeLine; decide, fun p hp => ?_⟩⟩⟩
  obtain ⟨sv, w, R1, e1⟩ := put2 oi R e x1 i r1 (WP.bind.mp w)
  obtain ⟨sv2, w, R2, e2⟩ := put2 oj R1 e1 x2 j r2 (WP.bind.mp w)
  have x3 := x2.bs.allocP (o := .tup [v, v2]) hp
  exact ⟨p, [v, v2], rfl, .inl (.inl upd_same), rfl, v, [v2], rfl, v2, [], rfl, rfl, w _ _ _ (R2.ext x3) (e2.ext x3)⟩
/-- x = e if c else y, y an own list: x may be it -/
theorem x_bor {i j : Nat} {x y : Str} {p p2 ip : Pos} (hN : X.N.Nodup) (hi : X.N[i]? = some x) (hx : Loc X.env.scope x) (hf : X.fn x = true ∨ X.env.scope.names.lookup x = some .local)
    (hj : X.N[j]? = some y) (hy : Vis X.env.scope y) (h1 : (y == ("__debug__" : Str)) = false) (h2 : (y == ("__classdict__" : Str)) = false) (hij : i ≠ j) (hc : PT X E3 (tB1 g fa b1)) (h : PE X E (tG g fa .p f)) :
    PS X (.Assign [.Name x p] (.IfExp E3 E (.Name y p2) ip) pos) (tS g fa H0s Hs Z fun ρ => (b1 ρ).bind fun k => if k = true then (f ρ).bind fun d => M.ret (Out.nx (put ρ i (.dat d))) else (go ρ j).bind fun ds => need (noOwn ρ i) (M.ret (Out.nx (put ρ i (.bor (.list ds)))))) :=
  ps_imp (ps_set hN hi hx (pe_ifExp hc h (pe_var hj hy h1 h2)) rfl hf) fun D σ H ⟨H0, ρ, R, e, w⟩ => ⟨H0, ρ, R, (WP.bind.mp w).mono fun k w H1' H1 x1 => by
    cases k with
    | true =>
      rw [if_pos rfl] at w ⊢
      exact ⟨H1', ρ, R.ext x1, (WP.bind.mp w).mono fun d w v H2' H2 x2 r2 => w _ H2' H2 ((R.ext (x1.trans x2)).putD i r2) ((e.ext (x1.trans x2)).kp (Kp.put fun _ z => by cases z))⟩
    | false =>
      rw [if_neg (by intro z; cases z)] at w ⊢
      obtain ⟨ds, ho, w⟩ := go_ok (WP.bind.mp w)
      obtain ⟨hno, w⟩ := wp_need w
      have R1 := R.ext x1
      obtain ⟨a, xs, hs, h0, ha, ra⟩ := R1.ownAt ho
      have hn : ∀ e, ρ[i]? ≠ some (some (.own e)) := fun e' z => by unfold noOwn at hno; rw [z] at hno; cases hno
      refine ⟨_, hs, w _ H1' H1 (R1.put i (.inr ⟨j, hs, clr_own ho⟩) (fun _ _ => hn) (fun _ z => by cases z)) ((e.ext x1).kp (Kp.put fun _ z => by cases z))⟩⟩
/-! changes of own lists -/
theorem x_meth {i : Nat} {x : Str} {name : Str} {id : String} {r : V → List V → Hp → VK → Prop} {apos cpos : Pos} (hN : X.N[i]? = some x) (hv : Vis X.env.scope x) (h1 : (x == ("__debug__" : Str)) = false) (h2 : (x == ("__classdict__" : Str)) = false)
    (slot : Slot "list" name id) (ty : typeOf (.builtin id) = pure (.type "method_descriptor")) (hm : MtR X id r) (hl : (apos.endLine == cpos.line) = true) (hs : starEach [E] X.env = (false, eval E X.env) :: starEach [] X.env) {te : TE} (h : PE X E te) :
    PE X (.Call (.Attribute (.Name x p) name apos) [E] [] cpos) (tBM X.K "list" r (tVar i) (tCons te tNil)) :=
  pe_bm PySem.F.plainAttrs_list slot ty hm (pe_var hN hv h1 h2) (pa_cons h pa_nil hs) rfl (by rw [hs]; rfl) hl hs rfl
theorem tyV_own {K : PySem.W.Frag} {H : Hp} {a : Addr} {xs : List V} (h : H a = some (.lst xs)) : tyV K "list" (.ref a) H := .inl ⟨rfl, xs, .inl (.inl h)⟩
theorem x_app {i : Nat} {x : Str} {apos cpos : Pos} (hN : X.N[i]? = some x) (hv : Vis X.env.scope x) (h1 : (x == ("__debug__" : Str)) = false) (h2 : (x == ("__classdict__" : Str)) = false)
    (hl : (apos.endLine == cpos.line) = true) (hs : starEach [E] X.env = (false, eval E X.env) :: starEach [] X.env) (h : PE X E (tG g fa .p f)) :
    PS X (.Expr (.Call (.Attribute (.Name x p) "append" apos) [E] [] cpos) pos) (tS g fa H0s Hs Z fun ρ => (go ρ i).bind fun ds => (f ρ).bind fun d => need (decide (ds.length < sizeLine)) (M.ret (Out.nx (chg ρ i (ds ++ [d]))))) :=
  ps_imp (ps_expr (x_meth hN hv h1 h2 PySem.F.slot_list_append PySem.F.type_list_append mt_append hl hs h)) fun D σ H ⟨H0, ρ, R, e, w⟩ => by
    obtain ⟨ds, ho, w⟩ := go_ok (WP.bind.mp w)
    obtain ⟨a, xs, hs, h0, ha, ra⟩ := R.ownAt ho
    refine ⟨_, hs, tyV_own ha, H0, ρ, R, (WP.bind.mp w).mono fun d w v H1' H1 x1 r1 => ?_⟩
    obtain ⟨hc, w⟩ := wp_need w
    have ha1 := x1.ownAt R.bs ha
    exact ⟨a, xs, v, rfl, rfl, ha1, by rw [ra.len]; exact of_decide_eq_true hc, w σ H1' _ ((R.ext x1).chg ho hs ha1 ((ra.mono x1.lo).append (.one r1))) ((e.ext x1).chg (R.ext x1) ho hs ha1)⟩
theorem x_ext {i : Nat} {x : Str} {apos cpos : Pos} (hN : X.N[i]? = some x) (hv : Vis X.env.scope x) (h1 : (x == ("__debug__" : Str)) = false) (h2 : (x == ("__classdict__" : Str)) = false)
    (hl : (apos.endLine == cpos.line) = true) (hs : starEach [E] X.env = (false, eval E X.env) :: starEach [] X.env) (h : PE X E (tG g fa .v f)) :
    PS X (.Expr (.Call (.Attribute (.Name x p) "extend" apos) [E] [] cpos) pos) (tS g fa H0s Hs Z fun ρ => (go ρ i).bind fun ds => (f ρ).bind fun d => (lstD d).bind fun es => need (decide (ds.length + es.length ≤ sizeLine)) (M.ret (Out.nx (chg ρ i (ds ++ es))))) :=
  ps_imp (ps_expr (x_meth hN hv h1 h2 PySem.F.slot_list_extend PySem.F.type_list_extend mt_extend hl hs h)) fun D σ H ⟨H0, ρ, R, e, w⟩ => by
    obtain ⟨ds, ho, w⟩ := go_ok (WP.bind.mp w)
    obtain ⟨a, xs, hs, h0, ha, ra⟩ := R.ownAt ho
    refine ⟨_, hs, tyV_own ha, H0, ρ, R, (WP.bind.mp w).mono fun d w v H1' H1 x1 r1 => ?_⟩
    obtain ⟨es, rfl, w⟩ := lstD_ok (WP.bind.mp w)
    obtain ⟨hc, w⟩ := wp_need w
    have ha1 := x1.ownAt R.bs ha
    obtain ⟨b, ys, rfl, hb, rb⟩ := Rv.list r1 x1.bs
    exact ⟨a, b, xs, ys, rfl, rfl, ha1, hb, by rw [ra.len, rb.len]; exact of_decide_eq_true hc, w σ H1' _ ((R.ext x1).chg ho hs ha1 ((ra.mono x1.lo).append rb)) ((e.ext x1).chg (R.ext x1) ho hs ha1)⟩
theorem popD_ok {ds es : List D} {k : Int} {z : D} (h : popD ds k = some (z, es)) : -(2 ^ 63) ≤ k ∧ k < 2 ^ 63 ∧ ∃ j, seqIndex? k ds.length = some j ∧ ds[j]? = some z ∧ es = ds.eraseIdx j := by
  unfold popD at h
  split at h
  · rename_i hc
    refine ⟨by omega, by omega, ?_⟩
    cases e : seqIndex? k ds.length with
    | none => rw [e] at h; cases h
    | some j =>
      rw [e] at h
      have h : (ds[j]?).map (fun d => (d, ds.eraseIdx j)) = some (z, es) := h
      cases e2 : ds[j]? with
      | none => rw [e2] at h; cases h
      | some d =>
        rw [e2] at h
        cases h
        exact ⟨j, rfl, e2, rfl⟩
  · cases h
theorem x_pop {i : Nat} {x : Str} {apos cpos : Pos} (hN : X.N[i]? = some x) (hv : Vis X.env.scope x) (h1 : (x == ("__debug__" : Str)) = false) (h2 : (x == ("__classdict__" : Str)) = false)
    (hl : (apos.endLine == cpos.line) = true) (hs : starEach [E] X.env = (false, eval E X.env) :: starEach [] X.env) (h : PE X E (tG g fa .p f)) :
    PS X (.Expr (.Call (.Attribute (.Name x p) "pop" apos) [E] [] cpos) pos) (tS g fa H0s Hs Z fun ρ => (go ρ i).bind fun ds => (f ρ).bind fun d => (intD d).bind fun k => match popD ds k with
    | some (_, es) => M.ret (Out.nx (chg ρ i es))
    | none => .bad) :=
  ps_imp (ps_expr (x_meth hN hv h1 h2 PySem.F.slot_list_pop PySem.F.type_list_pop mt_popAt hl hs h)) fun D σ H ⟨H0, ρ, R, e, w⟩ => by
    obtain ⟨ds, ho, w⟩ := go_ok (WP.bind.mp w)
    obtain ⟨a, xs, hs, h0, ha, ra⟩ := R.ownAt ho
    refine ⟨_, hs, tyV_own ha, H0, ρ, R, (WP.bind.mp w).mono fun d w v H1' H1 x1 r1 => ?_⟩
    obtain ⟨k, ek, w2⟩ := intD_ok (WP.bind.mp w)
    clear w
    have w := w2
    subst ek
    cases r1
    cases hp : popD ds k with
    | none => rw [hp] at w; exact w.elim
    | some q =>
      obtain ⟨z, es⟩ := q
      rw [hp] at w
      obtain ⟨c1, c2, j, hj, hz, rfl⟩ := popD_ok hp
      have ha1 := x1.ownAt R.bs ha
      obtain ⟨u, hu, _⟩ := ra.get' hz
      exact ⟨a, xs, k, j, u, rfl, rfl, ha1, c1, c2, by rw [ra.len]; exact hj, hu, w σ H1' _ ((R.ext x1).chg ho hs ha1 ((ra.mono x1.lo).erase j)) ((e.ext x1).chg (R.ext x1) ho hs ha1)⟩
theorem chg_other {ρ : Ev} {i j : Nat} {ds es : List D} (hij : i ≠ j) (h : ρ[i]? = some (some (.own (.list ds)))) : (chg ρ j es)[i]? = some (some (.own (.list ds))) := by
  unfold chg
  rw [List.getElem?_set_ne (fun z => hij z.symm)]
  exact clr_own h
theorem x_appPop {i j : Nat} {x y : Str} {apos cpos apos2 cpos2 p2 : Pos} (hN : X.N[i]? = some x) (hv : Vis X.env.scope x) (h1 : (x == ("__debug__" : Str)) = false) (h2 : (x == ("__classdict__" : Str)) = false)
    (hN' : X.N[j]? = some y) (hv' : Vis X.env.scope y) (h1' : (y == ("__debug__" : Str)) = false) (h2' : (y == ("__classdict__" : Str)) = false)
    (hl : (apos.endLine == cpos.line) = true) (hl2 : (apos2.endLine == cpos2.line) = true) (hs : starEach [E] X.env = (false, eval E X.env) :: starEach [] X.env) (h : PE X E (tG g fa .p f)) :
    PS X (.Expr (.Call (.Attribute (.Name x p) "append" apos) [.Call (.Attribute (.Name y p2) "pop" apos2) [E] [] cpos2] [] cpos) pos) (tS g fa H0s Hs Z fun ρ => (go ρ i).bind fun cs => (go ρ j).bind fun ds => (f ρ).bind fun d => (intD d).bind fun k => match popD ds k with
    | some (z, es) => need (decide (cs.length < sizeLine ∧ i ≠ j)) (M.ret (Out.nx (chg (chg ρ j es) i (cs ++ [z]))))
    | none => .bad) :=
  ps_imp (ps_expr (x_meth hN hv h1 h2 PySem.F.slot_list_append PySem.F.type_list_append mt_append hl rfl (x_meth hN' hv' h1' h2' PySem.F.slot_list_pop PySem.F.type_list_pop mt_popAt hl2 hs h))) fun D σ H ⟨H0, ρ, R, e, w⟩ => by
    obtain ⟨cs, hoi, w⟩ := go_ok (WP.bind.mp w)
    obtain ⟨ds, hoj, w⟩ := go_ok (WP.bind.mp w)
    obtain ⟨a, xs, hsi, h0, ha, ra⟩ := R.ownAt hoi
    obtain ⟨b, ys, hsj, g0, hb, rb⟩ := R.ownAt hoj
    refine ⟨_, hsi, tyV_own ha, _, hsj, tyV_own hb, H0, ρ, R, (WP.bind.mp w).mono fun d w v H1' H1 x1 r1 => ?_⟩
    obtain ⟨k, ek, w2⟩ := intD_ok (WP.bind.mp w)
    clear w
    have w := w2
    subst ek
    cases r1
    cases hp : popD ds k with
    | none => rw [hp] at w; exact w.elim
    | some q =>
      obtain ⟨z, es⟩ := q
      rw [hp] at w
      obtain ⟨hc, w⟩ := wp_need w
      obtain ⟨hc, hij⟩ := of_decide_eq_true hc
      obtain ⟨c1, c2, m, hm, hz, rfl⟩ := popD_ok hp
      have ha1 := x1.ownAt R.bs ha
      have hb1 := x1.ownAt R.bs hb
      obtain ⟨u, hu, ru⟩ := rb.get' hz
      have hab : a ≠ b := fun q => hij (R.own i j _ _ _ hoi hoj hsi (q ▸ hsj))
      have R1 := (R.ext x1).chg hoj hsj hb1 ((rb.mono x1.lo).erase m)
      have e1 := (e.ext x1).chg (ys := ys.eraseIdx m) (es := ds.eraseIdx m) (R.ext x1) hoj hsj hb1
      have ha2 : upd H1 b (.lst (ys.eraseIdx m)) a = some (.lst xs) := by rw [upd_ne hab]; exact ha1
      have hoi2 := chg_other (es := ds.eraseIdx m) hij hoi
      refine ⟨b, ys, k, m, u, rfl, rfl, hb1, c1, c2, by rw [rb.len]; exact hm, hu, a, xs, u, rfl, rfl, ha2, by rw [ra.len]; exact hc, w σ H1' _ (R1.chg hoi2 hsi ha2 ((ra.mono x1.lo).append (.one (Rp.mono x1.lo ru)))) (e1.chg R1 hoi2 hsi ha2)⟩
theorem map_erase {α β : Type} (f : α → β) : ∀ (l : List α) (j : Nat), (l.map f).eraseIdx j = (l.eraseIdx j).map f
  | [], _ => rfl
  | _ :: _, 0 => rfl
  | a :: l, j + 1 => by
    show f a :: (l.map f).eraseIdx j = f a :: (l.eraseIdx j).map f
    rw [map_erase f l j]
theorem rmvD_ok {x : Int} : ∀ {ns : List Int} {ds es : List D}, intsOf ds = some ns → rmvD (.int x) ds = some es → ∃ j : Nat, ns[j]? = some x ∧ (∀ m : Nat, m < j → ns[m]? ≠ some x) ∧ es = ds.eraseIdx j
  | ns, [], es, _, h => by cases h
  | ns, d :: ds, es, hi, h => by
    cases d with
    | int y =>
      simp only [intsOf] at hi
      cases e : intsOf ds with
      | none => rw [e] at hi; cases hi
      | some ms =>
        rw [e] at hi
        have hns : ns = y :: ms := by simpa using hi.symm
        subst hns
        unfold rmvD at h
        by_cases hy : y = x
        · subst hy
          rw [if_pos (by simp [PyData.eqv])] at h
          cases h
          exact ⟨0, rfl, fun m hm => by omega, rfl⟩
        · rw [if_neg (by simp [PyData.eqv]; exact hy)] at h
          cases e2 : rmvD (.int x) ds with
          | none => rw [e2] at h; cases h
          | some es' =>
            rw [e2] at h
            cases h
            obtain ⟨j, h1, h2, h3⟩ := rmvD_ok e e2
            refine ⟨j + 1, by simpa using h1, fun m hm => ?_, by rw [h3]; rfl⟩
            cases m with
            | zero => simpa using hy
            | succ m => simpa using h2 m (by omega)
    | _ => simp [intsOf] at hi
theorem x_rmv {i : Nat} {x : Str} {apos cpos : Pos} (hN : X.N[i]? = some x) (hv : Vis X.env.scope x) (h1 : (x == ("__debug__" : Str)) = false) (h2 : (x == ("__classdict__" : Str)) = false)
    (hl : (apos.endLine == cpos.line) = true) (hs : starEach [E] X.env = (false, eval E X.env) :: starEach [] X.env) (h : PE X E (tG g fa .p f)) :
    PS X (.Expr (.Call (.Attribute (.Name x p) "remove" apos) [E] [] cpos) pos) (tS g fa H0s Hs Z fun ρ => (go ρ i).bind fun ds => (f ρ).bind fun d => match intsOf ds, d, rmvD d ds with
    | some _, .int _, some es => M.ret (Out.nx (chg ρ i es))
    | _, _, _ => .bad) :=
  ps_imp (ps_expr (x_meth hN hv h1 h2 PySem.F.slot_list_remove PySem.F.type_list_remove mt_remove hl hs h)) fun D σ H ⟨H0, ρ, R, e, w⟩ => by
    obtain ⟨ds, ho, w⟩ := go_ok (WP.bind.mp w)
    obtain ⟨a, xs, hs, h0, ha, ra⟩ := R.ownAt ho
    refine ⟨_, hs, tyV_own ha, H0, ρ, R, (WP.bind.mp w).mono fun d w v H1' H1 x1 r1 => ?_⟩
    cases hi : intsOf ds with
    | none => rw [hi] at w; exact w.elim
    | some ns =>
      rw [hi] at w
      cases d with
      | int k =>
        cases hr : rmvD (.int k) ds with
        | none => rw [hr] at w; exact w.elim
        | some es =>
          rw [hr] at w
          cases r1
          obtain ⟨j, q1, q2, rfl⟩ := rmvD_ok hi hr
          have ha1 := x1.ownAt R.bs ha
          have ex := ra.nums hi
          subst ex
          refine ⟨a, ns, k, j, rfl, rfl, ha1, q1, q2, w σ H1' _ ((R.ext x1).chg ho hs ha1 ?_) ((e.ext x1).chg (R.ext x1) ho hs ha1)⟩
          rw [← map_erase]
          exact (ra.mono x1.lo).erase j
      | _ => exact w.elim
theorem x_aug {i : Nat} {x : Str} {p : Pos} (hN : X.N.Nodup) (hi : X.N[i]? = some x) (hx : Loc X.env.scope x) (hf : X.fn x = true ∨ X.env.scope.names.lookup x = some .local) (h : PE X E (tG g fa .p f)) :
    PS X (.AugAssign (.Name x p) .Add E pos) (tS g fa H0s Hs Z fun ρ => (gs ρ i).bind fun x => (f ρ).bind fun y => (intD x).bind fun a => (intD y).bind fun b => M.ret (Out.nx (put ρ i (.dat (.int (a + b)))))) :=
  ps_imp (ps_aug hN hi hx h ip_add hf) fun D σ H ⟨H0, ρ, R, e, w⟩ => by
    obtain ⟨d, hd, w1⟩ := gs_ok (WP.bind.mp w)
    obtain ⟨v, hv, s⟩ := R.slot i _ hd
    refine ⟨v, hv, H0, ρ, R, (WP.bind.mp w1).mono fun y w2 u H1' H1 x1 r1 => ?_⟩
    obtain ⟨a, ea, w3⟩ := intD_ok (WP.bind.mp w2)
    obtain ⟨b, eb, w4⟩ := intD_ok (WP.bind.mp w3)
    subst ea eb
    have s : Rp g fa H0 v (.int a) := s
    cases s
    cases r1
    exact ⟨a, b, rfl, rfl, w4 _ H1' H1 ((R.ext x1).putD i (.int _)) ((e.ext x1).kp (Kp.put fun _ z => by cases z))⟩
theorem x_fput {i q : Nat} {x y : Str} {j : Nat} {p p2 p3 : Pos} (hu : X.A.units + 1 < cLine) (ok : FkOk g.fk) (hk : fkAt g.fk q = some y) (hN : X.N[i]? = some x) (hv : Vis X.env.scope x) (h1 : (x == ("__debug__" : Str)) = false) (h2 : (x == ("__classdict__" : Str)) = false) (h : PE X E (tG g fa .p f)) (hs : swapsWith E (some (.Subscript (.Name x p) (.Constant (.str y) j p2) p3)) pos.line X.env = pure false) :
    PS X (.Assign [.Subscript (.Name x p) (.Constant (.str y) j p2) p3] E pos) (tS g fa H0s Hs Z fun ρ => (f ρ).bind fun d => (intD d).bind fun _ => (gs ρ i).bind fun x => (cellsOf x).bind fun _ => M.ret (Out.nx ρ)) :=
  ps_imp (ps_dput hu (pe_var hN hv h1 h2) pe_str h hs) fun D σ H ⟨H0, ρ, R, e, w⟩ => ⟨H0, ρ, R, (WP.bind.mp w).mono fun d w v H1' H1 x1 r1 => by
    obtain ⟨n, rfl, w⟩ := intD_ok (WP.bind.mp w)
    cases r1
    obtain ⟨t, et, w⟩ := gs_ok (WP.bind.mp w)
    obtain ⟨l, ed, w⟩ := cellsOf_ok (WP.bind.mp w)
    obtain ⟨v, hv, s⟩ := (R.ext x1).slot i _ et
    have s : Rp g fa H1' v t := s
    obtain ⟨a, rfl, hf, el⟩ := rp_feed s ed
    obtain ⟨H2, hp, x2⟩ := feed_put n x1.bs hf ok hk
    exact ⟨_, hv, a, H2, rfl, hp, w σ H1' H2 ((R.ext x1).ext x2) ((e.ext x1).ext x2)⟩⟩
theorem x_for {iter : Expr} {body : List Stmt} {fi : Ev → M (List D)} {ts : List Nat} {ft : D → Ev → M Ev} (hx : X.xe = fun _ _ => False) (hc : X.calm = true) (hi : PI X tg iter (tWD g fa fi)) (hg : PG X tg (gT g fa ts ft)) (hb : ∀ Z, PSs X body (tS g fa H0s Hs Z o1))
    (hs : ∀ x, foldedSetIterable iter X.env x = pure x) : PS X (.For tg iter body [] pos) (tS g fa H0s Hs Z fun ρ => (fi ρ).bind fun ds => forGo ft o1 ds ρ) := by
  have hb' : PSs X body (fun D σ H => ∃ Z, tS g fa H0s Hs Z o1 D σ H) := ⟨fun ps s σ H D I ⟨Z, q⟩ => (hb Z).run ps s σ H D I q⟩
  refine ps_imp (ps_for (hx ▸ PassesOwn.never) hc hi hg hb' hs) fun D σ H ⟨H0, ρ, R, e, w⟩ => ⟨H0, ρ, R, (WP.bind.mp w).mono fun ds w hz J H1' H1 x1 wk => ?_⟩
  have zz : ∀ a o, Z a = some o → H1' a = some o := fun a o h => x1.lo a o (e.z a o h)
  refine ⟨fun i m σ H => i + m = ds.length ∧ ∃ H0 ρ, RepS g fa H0 H σ ρ ∧ Ent g fa H0s Hs H1' H0 H σ ρ ∧ WP (forGo ft o1 (ds.drop i) ρ) fun o => match o with
    | .nx ρ' => ∀ σ' H0' H', RepS g fa H0' H' σ' ρ' → Ent g fa H0s Hs Z H0' H' σ' ρ' → D.nx σ' H'
    | .ct ρ' => ∀ σ' H0' H', RepS g fa H0' H' σ' ρ' → Ent g fa H0s Hs Z H0' H' σ' ρ' → D.ct σ' H'
    | .bk ρ' => ∀ σ' H0' H', RepS g fa H0' H' σ' ρ' → Ent g fa H0s Hs Z H0' H' σ' ρ' → D.bk σ' H'
    | .rt d => ∀ v H0' H', Ext g fa H0s Hs H0' H' → Rp g fa H0' v d → D.rt v H', ⟨ds.length, by omega, H1', ρ, R.ext x1, ⟨e.x.trans x1, e.own, e.b0, fun _ _ h => h⟩, w⟩, fun i m σ H hW => ?_⟩
  obtain ⟨em, H0, ρ, R, e, w⟩ := hW
  have wki := wk i H0 H R.bs e.z
  have back : ∀ {H0 H : Hp} {σ : L2.St} {ρ : Ev}, Ent g fa H0s Hs H1' H0 H σ ρ → Ent g fa H0s Hs Z H0 H σ ρ := fun e => ⟨e.x, e.own, e.b0, fun a o h => e.z a o (zz a o h)⟩
  by_cases hlt : i < ds.length
  · obtain ⟨d, hd, hdr⟩ : ∃ d, ds[i]? = some d ∧ ds.drop i = d :: ds.drop (i + 1) := ⟨ds[i], List.getElem?_eq_getElem hlt, List.drop_eq_getElem_cons hlt⟩
    obtain ⟨go, yl⟩ := wki.1 d hd
    refine .inr ⟨go, fun σ' H' => ∃ m', m' < m ∧ _, fun σ' H' h => h, fun x H' hy => ?_⟩
    obtain ⟨H02, x2, rx⟩ := yl x H' hy
    rw [hdr] at w
    refine ⟨H02, ρ, d, R.ext x2, rx, (WP.bind.mp w).mono fun ρ1 w σ1 off k R1 => ⟨H1', H02, ρ1, R1, (e.ext x2).kp k, (WP.bind.mp w).mono fun o w => ?_⟩⟩
    cases o with
    | nx ρ2 => exact fun σ' H0' H' R' e' => ⟨m - 1, by omega, by omega, H0', ρ2, R', e', w⟩
    | ct ρ2 => exact fun σ' H0' H' R' e' => ⟨m - 1, by omega, by omega, H0', ρ2, R', e', w⟩
    | bk ρ2 => exact fun σ' H0' H' R' e' => w σ' H0' H' R' (back e')
    | rt d => exact w
  · have ei : ds.drop i = [] := List.drop_eq_nil_of_le (by omega)
    rw [ei] at w
    exact .inl ⟨wki.2 (by omega), w σ H0 H R (back e)⟩
end
end Pf
/-! PfJ: the matcher: that a piece of Python's tree is a piece of the small language. -/
namespace Pf
open PySem PySem.Spec PyProof.Rows L2

/-- what is known of a block, by sight -/
structure Sc where
  N : List Str
  sc : Scope
  cel : Str → Bool
  tb : List (Str × List Str)
  bn : List Str
  cs : List (Str × D)
  fk : Str × Str × Str × Str
  kb : List (Nat × List Str × List Nat)
def Sc.blk (c : Sc) (scope : Scope) : Sc := { c with sc := relS scope c.sc, cel := fun x => scope.names.lookup x == some .cell }
def Sc.vis (c : Sc) (i : Nat) (x : Str) : Bool := decide (c.N[i]? = some x) && (match c.sc.names.lookup x with
  | some .local => true
  | some .cell => true
  | some .free => true
  | _ => false) && !(x == ("__debug__" : Str)) && !(x == ("__classdict__" : Str))
def Sc.loc (c : Sc) (i : Nat) (x : Str) : Bool := decide (c.N[i]? = some x) && (match c.sc.names.lookup x with
  | some .local => true
  | some .cell => c.cel x
  | _ => false)
def Sc.gl (c : Sc) (x : Str) : Bool := decide (c.sc.names.lookup x = some .globalImplicit) && !(x == ("__debug__" : Str)) && decide (x ≠ "__name__")
def Sc.blt (c : Sc) (x : Str) : Bool := c.gl x && decide (x ∈ c.bn)

def notStar : Expr → Bool
  | .Starred .. => false
  | _ => true
def notSet : Expr → Bool
  | .Set .. => false
  | _ => true
def notComp : Expr → Bool
  | .ListComp .. => false
  | .SetComp .. => false
  | .DictComp .. => false
  | _ => true
def notSlice : Expr → Bool
  | .Slice .. => false
  | _ => true
def plainT : Expr → Bool
  | .UnaryOp .Not _ _ => false
  | .BoolOp .. => false
  | .IfExp .. => false
  | .Compare .. => false
  | _ => true
def baseOk : Expr → Bool
  | .Call .. => false
  | _ => true
inductive Syn where
  | e (x : Expr)
  | a (xs : List Expr)
  | t (x : Expr)
  | ts (xs : List Expr)
  | i (tg x : Expr)
  | o (x : Option Expr)
  | f (xs : List Expr)
  | s (x : Stmt)
  | b (xs : List Stmt)
def Syn.ex? : Syn → Option Expr
  | .e x => some x
  | .i _ x => if notSet x = true then some x else none
  | .o (some x) => some x
  | .f [x] => some x
  | _ => none
def cstOk : Const → D → Bool
  | .none, .none => true
  | .bool a, .bool b => a == b
  | .int a, .int b => decide (a = b)
  | .str a, .str b => decide (a = b)
  | _, _ => false
def eqS : D → D → Bool
  | .int a, .int b => decide (a = b)
  | .str a, .str b => decide (a = b)
  | _, _ => false
def tyStr : Ty → Str
  | .int => "int"
  | .bool => "bool"
  | .str => "str"
  | .tup => "tuple"
  | .lst => "list"
def isTupE : Expr → Bool
  | .Tuple .. => true
  | _ => false
def opEq : Op2 → Operator → Bool
  | .add, .Add => true
  | .sub, .Sub => true
  | .mul, .Mult => true
  | .mod, .Mod => true
  | .fdiv, .FloorDiv => true
  | .pow, .Pow => true
  | _, _ => false
def cmEq : Cm → CmpOp → Bool
  | .lt, .Lt => true
  | .le, .LtE => true
  | .gt, .Gt => true
  | .ge, .GtE => true
  | .eq, .Eq => true
  | .ne, .NotEq => true
  | .isin, .In => true
  | .notin, .NotIn => true
  | _, _ => false
def Sc.ownL (c : Sc) (own : List Nat) : List (Str × Nat) := own.map fun i => (c.N.getD i Str.empty, i)
def isFrz : Sx → Bool
  | .frz _ => true
  | _ => false
/-- whether a store of this value into this name is done within the comprehension's frame -/
def Sc.swp (c : Sc) : Expr → Expr → Bool
  | .Name t p, .ListComp elt gs scope pos => decide (c.sc.names.lookup t = some .local) && (p.line == (Expr.ListComp elt gs scope pos).pos.line) && !(scope.names.any fun (n, k) => n == t && (k == .local || k == .cell))
  | _, _ => false
/-- a target and a value of a plain store -/
def Sc.stOk (c : Sc) (tg v : Expr) : Bool := notStar tg && (match tg, v with
  | .Tuple .., .Tuple .. => false
  | .List .., _ => false
  | .Name .., .SetComp .. => false
  | .Name .., .DictComp .. => false
  | .Name .., _ => true
  | _, v => notComp v)

def mt : Sx → Sc → Syn → Bool
  | .var i, c, y => match y with
    | .t (.Name x _) => c.loc i x
    | y => match y.ex? with
      | some (.Name x _) => c.vis i x
      | _ => false
  | .cst d, c, y => match y.ex? with
    | some (.Constant k _ _) => cstOk k d
    | _ => false
  | .glob x d, c, y => match y.ex? with
    | some (.Name z _) => decide (z = x) && c.gl x && c.cs.any fun p => decide (p.1 = x) && eqS p.2 d
    | _ => false
  | .fref x k, c, y => match y.ex? with
    | some (.Name z _) => decide (z = x) && c.gl x && decide ((c.tb[k]?).map (·.1) = some x)
    | _ => false
  | .nil, c, y => match y with
    | .a [] => true
    | .ts [] => true
    | .b [] => true
    | _ => false
  | .cons e a, c, y => match y with
    | .a (x :: r) => notStar x && mt e c (.e x) && mt a c (.a r)
    | .ts (x :: r) => notStar x && mt e c (.t x) && mt a c (.ts r)
    | .b sts => if isFrz e = true then mt a c (.b sts) else match sts with
      | st :: r => mt e c (.s st) && mt a c (.b r)
      | [] => false
    | _ => false
  | .tup a, c, y => match y with
    | .t (.Tuple es _ _) => mt a c (.ts es)
    | y => match y.ex? with
      | some (.Tuple es _ _) => mt a c (.a es)
      | _ => false
  | .lst a, c, y => match y.ex? with
    | some (.List es _) => mt a c (.a es)
    | _ => false
  | .call k a, c, y => match y.ex? with
    | some (.Call (.Name x _) args [] _) => c.gl x && decide ((c.tb[k]?).map (·.1) = some x) && mt a c (.a args)
    | _ => false
  | .callv i a, c, y => match y.ex? with
    | some (.Call (.Name x _) (z :: args) [] _) => c.vis i x && mt a c (.a (z :: args))
    | _ => false
  | .callk k p a, c, y => match y.ex? with
    | some (.Call (.Name x _) [] (q :: kws) _) => c.gl x && decide ((c.tb[k]?).map (·.1) = some x) && (c.kb.any fun z => decide (z.1 = k) && decide (z.2.2 = p) && decide ((q :: kws).map (·.arg) = z.2.1.map some)) && mt a c (.a ((q :: kws).map (·.value)))
    | _ => false
  | .fld i q, c, y => match y.ex? with
    | some (.Subscript (.Name x _) (.Constant (.str s) _ _) _) => c.vis i x && decide (fkAt c.fk q = some s)
    | _ => false
  | .fcl i, c, y => match y.ex? with
    | some (.Subscript (.Name x _) (.Constant (.str s) _ _) _) => c.vis i x && decide (c.fk.1 = s)
    | _ => false
  | .fput i q e, c, y => match y with
    | .s (.Assign [.Subscript (.Name x _) (.Constant (.str s) _ _) _] v _) => c.vis i x && decide (fkAt c.fk q = some s) && notComp v && mt e c (.e v)
    | _ => false
  | .bi b e, c, y => match y.ex? with
    | some (.Call (.Name x _) [z] [] _) => decide (x = biName b) && c.blt x && notStar z && mt e c (.e z)
    | _ => false
  | .biIf b k e d, c, y => match y.ex? with
    | some (.Call (.Name x _) [.IfExp z u v _] [] _) => decide (x = biName b) && c.blt x && !(isNone_ k) && mt k c (.e z) && mt e c (.e u) && mt d c (.e v)
    | _ => false
  | .isi e t, c, y => match y.ex? with
    | some (.Call (.Name x _) [z, .Name T _] [] _) => decide (x = "isinstance") && c.blt x && decide (T = tyStr t) && c.blt T && notStar z && mt e c (.e z)
    | _ => false
  | .upper e, c, y => match y.ex? with
    | some (.Call (.Attribute z m apos) [] [] pos) => decide (m = "upper") && baseOk z && (apos.endLine == pos.line) && mt e c (.e z)
    | _ => false
  | .bin o a b, c, y => match y.ex? with
    | some (.BinOp x op z _) => opEq o op && mt a c (.e x) && mt b c (.e z)
    | _ => false
  | .cmp o a b, c, y => match y.ex? with
    | some (.Compare x [op] [z] _) => cmEq o op && notSet z && mt a c (.e x) && mt b c (.e z)
    | _ => false
  | .chain o o' a b d, c, y => match y.ex? with
    | some (.Compare x [op, op'] [z, z'] _) => cmEq o op && cmEq o' op' && notSet z' && mt a c (.e x) && mt b c (.e z) && mt d c (.e z')
    | _ => false
  | .neg a, c, y => match y.ex? with
    | some (.UnaryOp .USub x _) => mt a c (.e x)
    | _ => false
  | .nt a, c, y => match y.ex? with
    | some (.UnaryOp .Not x _) => !(isNone_ a) && mt a c (.e x)
    | _ => false
  | .and a b, c, y => match y.ex? with
    | some (.BoolOp .And [x, z] _) => mt a c (.e x) && mt b c (.e z)
    | some (.BoolOp .And (x :: z :: z' :: rest) p) => mt a c (.e x) && mt b c (.e (.BoolOp .And (z :: z' :: rest) p))
    | _ => false
  | .or a b, c, y => match y.ex? with
    | some (.BoolOp .Or [x, z] _) => mt a c (.e x) && mt b c (.e z)
    | some (.BoolOp .Or (x :: z :: z' :: rest) p) => mt a c (.e x) && mt b c (.e (.BoolOp .Or (z :: z' :: rest) p))
    | _ => false
  | .ifx k a b, c, y => match y.ex? with
    | some (.IfExp z x x' _) => !(isNone_ k) && mt k c (.e z) && mt a c (.e x) && mt b c (.e x')
    | _ => false
  | .idx a b, c, y => match y.ex? with
    | some (.Subscript x z _) => notSlice z && mt a c (.e x) && mt b c (.e z)
    | _ => false
  | .sl a lo hi, c, y => match y.ex? with
    | some (.Subscript x (.Slice l h none _) _) => mt a c (.e x) && mt lo c (.o l) && mt hi c (.o h)
    | _ => false
  | .rev a, c, y => match y.ex? with
    | some (.Subscript x (.Slice none none (some (.UnaryOp .USub (.Constant (.int 1) _ _) _)) _) _) => mt a c (.e x)
    | _ => false
  | .step a lo n, c, y => match y.ex? with
    | some (.Subscript x (.Slice (some l) none (some (.Constant (.int m) _ _)) _) _) => decide (m = (n : Int)) && mt a c (.e x) && mt lo c (.e l)
    | _ => false
  | .none_, c, y => match y with
    | .o none => true
    | .f [] => true
    | _ => false
  | .lc own tg it cd elt, c, y => match y.ex? with
    | some (.ListComp elt' [⟨tg', iter, ifs, 0⟩] scope _) => blkC c.N c.sc scope (c.ownL own) && (slotsOf tg).all (own.contains ·) && notSet iter && mt it c (.i tg' iter) && mt tg (c.blk scope) (.t tg') && mt cd (c.blk scope) (.f ifs) && mt elt (c.blk scope) (.e elt')
    | _ => false
  | .rng1 a, c, y => match y with
    | .i _ (.Call (.Name x _) [z] [] _) => decide (x = "range") && c.blt x && notStar z && mt a c (.e z)
    | _ => false
  | .rng2 a b, c, y => match y with
    | .i _ (.Call (.Name x _) [z, z'] [] _) => decide (x = "range") && c.blt x && notStar z && notStar z' && mt a c (.e z) && mt b c (.e z')
    | _ => false
  | .zip a b, c, y => match y with
    | .i tg (.Call (.Name x _) [z, z'] [] _) => isTupE tg && decide (x = "zip") && c.blt x && notStar z && notStar z' && mt a c (.e z) && mt b c (.e z')
    | _ => false
  | .lrng a, c, y => match y.ex? with
    | some (.Call (.Name l _) [.Call (.Name x _) [z] [] _] [] _) => decide (l = "list") && c.blt l && decide (x = "range") && c.blt x && notStar z && mt a c (.e z)
    | _ => false
  | .trng a, c, y => match y.ex? with
    | some (.Call (.Name l _) [.Call (.Name x _) [z] [] _] [] _) => decide (l = "tuple") && c.blt l && decide (x = "range") && c.blt x && notStar z && mt a c (.e z)
    | _ => false
  | .asg tg e, c, y => match y with
    | .s (.Assign [t] v _) => c.stOk t v && mt tg c (.t t) && mt e c (.e v)
    | _ => false
  | .asgO i e, c, y => match y with
    | .s (.Assign [.Name x p] v _) => c.stOk (.Name x p) v && c.loc i x && isFr e && mt e c (.e v)
    | _ => false
  | .par i oi a j oj b, c, y => match y with
    | .s (.Assign [.Tuple [.Name x p, .Name x' p'] _ _] (.Tuple [v, v'] _ _) _) => c.loc i x && c.loc j x' && decide (i ≠ j) && notStar v && notStar v' && decide (x ≠ x') && (p.line == p'.line) && ((!oi) || isFr a) && ((!oj) || isFr b) &&
        !(foldedForSure 8 v && foldedForSure 8 v') && !(constantsAlone 8 v && constantsAlone 8 v') && mt a c (.e v) && mt b c (.e v')
    | _ => false
  | .bor i j k e, c, y => match y with
    | .s (.Assign [.Name x _] (.IfExp z v (.Name x' _) _) _) => c.loc i x && c.vis j x' && decide (i ≠ j) && !(isNone_ k) && mt k c (.e z) && mt e c (.e v)
    | _ => false
  | .app i e, c, y => match y with
    | .s (.Expr (.Call (.Attribute (.Name x _) m apos) [z] [] cpos) _) => c.vis i x && decide (m = "append") && (apos.endLine == cpos.line) && notStar z && mt e c (.e z)
    | _ => false
  | .ext i e, c, y => match y with
    | .s (.Expr (.Call (.Attribute (.Name x _) m apos) [z] [] cpos) _) => c.vis i x && decide (m = "extend") && (apos.endLine == cpos.line) && notStar z && mt e c (.e z)
    | _ => false
  | .rmv i e, c, y => match y with
    | .s (.Expr (.Call (.Attribute (.Name x _) m apos) [z] [] cpos) _) => c.vis i x && decide (m = "remove") && (apos.endLine == cpos.line) && notStar z && mt e c (.e z)
    | _ => false
  | .popS i e, c, y => match y with
    | .s (.Expr (.Call (.Attribute (.Name x _) m apos) [z] [] cpos) _) => c.vis i x && decide (m = "pop") && (apos.endLine == cpos.line) && notStar z && mt e c (.e z)
    | _ => false
  | .appPop i j e, c, y => match y with
    | .s (.Expr (.Call (.Attribute (.Name x _) m apos) [.Call (.Attribute (.Name x' _) m' apos') [z] [] cpos'] [] cpos) _) => c.vis i x && decide (m = "append") && (apos.endLine == cpos.line) && c.vis j x' && decide (m' = "pop") && (apos'.endLine == cpos'.line) && notStar z && mt e c (.e z)
    | _ => false
  | .augI i e, c, y => match y with
    | .s (.AugAssign (.Name x _) .Add v _) => c.loc i x && mt e c (.e v)
    | _ => false
  | .iff k a b, c, y => match y with
    | .s (.If z x x' _) => !(isNone_ k) && mt k c (.e z) && mt a c (.b x) && mt b c (.b x')
    | _ => false
  | .forS tg it b, c, y => match y with
    | .s (.For tg' iter body [] _) => notSet iter && mt it c (.i tg' iter) && mt tg c (.t tg') && mt b c (.b body)
    | _ => false
  | .whil k b, c, y => match y with
    | .s (.While z body [] _) => !(isNone_ k) && mt k c (.e z) && mt b c (.b body)
    | _ => false
  | .ret e, c, y => match y with
    | .s (.Return (some v) _) => mt e c (.e v)
    | _ => false
  | .retN, c, y => match y with
    | .s (.Return none _) => true
    | _ => false
  | .expr e, c, y => match y with
    | .s (.Expr v _) => notComp v && mt e c (.e v)
    | _ => false
  | .cont, c, y => match y with
    | .s (.Continue _) => true
    | _ => false
  | .brk, c, y => match y with
    | .s (.Break _) => true
    | _ => false
  | .pas, c, y => match y with
    | .s (.Pass _) => true
    | _ => false
  | .never, c, y => match y with
    | .s _ => true
    | _ => false
  | _, _, _ => false
end Pf
/-! PfK: what matches runs as it evaluates: expressions. -/
namespace Pf
open PySem PySem.Spec PyProof.Rows L2

/-! ### the tree's own small facts -/
theorem star_of {x : Expr} {es : List Expr} {env : Env} (h : notStar x = true) : starEach (x :: es) env = (false, eval x env) :: starEach es env := by
  cases x <;> first | rfl | cases h
theorem asg_of {x : Expr} {es : List Expr} {env : Env} (h : notStar x = true) : assignEach (x :: es) env = (false, assign x env) :: assignEach es env := by
  cases x <;> first | rfl | cases h
theorem fold_of {x : Expr} {env : Env} (h : notSet x = true) (v : Value) : foldedSetIterable x env v = pure v := by
  cases x <;> first | rfl | cases h
theorem mark_of {x : Expr} {op : CmpOp} (h : notSet x = true) : behindInMarks op x = false := by
  cases x <;> first | rfl | cases h
theorem ix_of {x : Expr} (h : notSlice x = true) : PlainIx x := by
  intro o i
  cases x <;> first | rfl | cases h
theorem true_of {x : Expr} {env : Env} (h : plainT x = true) : ∀ whole, isTrue x env whole = (do let v ← whole; standAt x.pos; holding [v] (truthy v)) := by
  intro whole
  cases x with
  | UnaryOp op e p => cases op <;> first | rfl | cases h
  | _ => first | rfl | cases h
theorem base_of {x : Expr} {m : Str} {env : Env} (h : baseOk x = true) : attributeBase x m env (eval x env) = eval x env := by
  cases x <;> first | rfl | cases h
theorem swapN_of {x : Expr} {l : Nat} {env : Env} (h : notComp x = true) : swapsWith x none l env = pure false := by
  cases x <;> first | rfl | cases h
theorem swapS_of {x t : Expr} {l : Nat} {env : Env} (h : notComp x = true) : swapsWith x (some t) l env = pure false := by
  cases x <;> first | rfl | cases h
theorem noStars {es : List Expr} {env : Env} {pos : Pos} (h : es.all notStar = true) : (backTo pos (starEach es env)).any (·.1) = false := by
  induction es with
  | nil => rfl
  | cons x r ih =>
    rw [List.all_cons, Bool.and_eq_true] at h
    rw [star_of h.1]
    show (false || (backTo pos (starEach r env)).any (·.1)) = false
    rw [ih h.2]; rfl
theorem asgs_len {es : List Expr} {env : Env} (h : es.all notStar = true) : (assignEach es env).length = es.length ∧ List.findIdx? (fun x => x.fst) (assignEach es env) = none := by
  induction es with
  | nil => exact ⟨rfl, rfl⟩
  | cons x r ih =>
    rw [List.all_cons, Bool.and_eq_true] at h
    rw [asg_of h.1]
    obtain ⟨h1, h2⟩ := ih h.2
    refine ⟨by rw [List.length_cons, List.length_cons, h1], ?_⟩
    rw [List.findIdx?_cons]
    simp [h2]

/-- the context is as the static part says -/
structure XOk (g : Gc) (F : Nat → List D → M D) (c : Sc) (X : Cx) : Prop where
  N : X.N = c.N
  nd : X.N.Nodup
  sc : X.env.scope = c.sc
  kd : c.sc.kind = .function
  cel : X.fn = c.cel
  calm : X.calm = true
  xe : X.xe = fun _ _ => False
  K : X.K = g.K
  gd : X.A.guards = some []
  rm : ∃ lv, Room lv X.A ∧ (∀ k x ps, c.tb[k]? = some (x, ps) → FnIn g F X lv k x ps) ∧
    ∀ k a, g.fn k = some a → ∃ (fd : FuncData) (j : Nat) (ps : List Str), j ≤ lv ∧ PySem.W.keepIn X.K (.ref a) = true ∧ Binds X.K fd ps [] ∧ FnG X.prog X.w X.K X.mg X.base j a fd ps (spD g ps.length (F k)) ∧ ∀ ds Q, WP (F k ds) Q → ds.length = ps.length
  bn : ∀ x ∈ c.bn, X.mg x = none
  cs : ∀ x d, (x, d) ∈ c.cs → ∃ u v, X.mg x = some u ∧ RelV v u ∧ (∀ fa H, Rp g fa H v d) ∧ ∀ ds, d ≠ .list ds
  fk : c.fk = g.fk
  fko : FkOk g.fk
  kb : ∀ k ks p x ps, (k, ks, p) ∈ c.kb → c.tb[k]? = some (x, ps) → ∃ (lv j : Nat) (a : Addr) (fd : FuncData), Room lv X.A ∧ j ≤ lv ∧ X.mg x = some (.ref a) ∧ PySem.W.keepIn X.K (.ref a) = true ∧ FnG X.prog X.w X.K X.mg X.base j a fd ps (spD g ps.length (F k)) ∧
    (∀ ds Q, WP (F k ds) Q → ds.length = ps.length) ∧ KBd X.K fd ps ks p
section
variable {g : Gc} {F : Nat → List D → M D} {c : Sc} {X : Cx}
theorem XOk.blk (o : XOk g F c X) {scope : Scope} (hk : scope.kind = .function) (s : Shared) (H : Hp) (C : Addr) (cl : List (Str × Addr)) (fp : List Addr) : XOk g F (c.blk scope) (X.blk s H scope (compEnvC scope cl C X.env) fp) where
  N := o.N
  nd := o.nd
  sc := by show relS scope X.env.scope = relS scope c.sc; rw [o.sc]
  kd := hk
  cel := rfl
  calm := o.calm
  xe := rfl
  K := o.K
  gd := o.gd
  rm := by
    obtain ⟨lv, h1, h2, h3⟩ := o.rm
    exact ⟨lv, h1, fun k x ps h => ⟨(h2 k x ps h).ex, (h2 k x ps h).ln⟩, h3⟩
  bn := o.bn
  cs := o.cs
  fk := o.fk
  fko := o.fko
  kb := o.kb
theorem XOk.u (o : XOk g F c X) : X.A.units + 66 < cLine := by
  obtain ⟨lv, h1, _⟩ := o.rm
  have := h1.un
  omega
theorem XOk.vis (o : XOk g F c X) {i : Nat} {x : Str} (h : c.vis i x = true) : X.N[i]? = some x ∧ Vis X.env.scope x ∧ (x == ("__debug__" : Str)) = false ∧ (x == ("__classdict__" : Str)) = false := by
  unfold Sc.vis at h
  simp only [Bool.and_eq_true, decide_eq_true_eq, Bool.not_eq_true'] at h
  obtain ⟨⟨⟨h1, h2⟩, h3⟩, h4⟩ := h
  refine ⟨by rw [o.N]; exact h1, ?_, h3, h4⟩
  unfold Vis
  rw [o.sc]
  split at h2
  · exact .inl (by assumption)
  · exact .inr (.inl (by assumption))
  · exact .inr (.inr (by assumption))
  · cases h2
theorem XOk.loc (o : XOk g F c X) {i : Nat} {x : Str} (h : c.loc i x = true) : X.N[i]? = some x ∧ L2.Loc X.env.scope x ∧ (X.fn x = true ∨ X.env.scope.names.lookup x = some .local) := by
  unfold Sc.loc at h
  simp only [Bool.and_eq_true, decide_eq_true_eq] at h
  obtain ⟨h1, h2⟩ := h
  refine ⟨by rw [o.N]; exact h1, ?_⟩
  unfold L2.Loc
  rw [o.sc, o.cel]
  split at h2
  · exact ⟨.inl (by assumption), .inr (by assumption)⟩
  · exact ⟨.inr (by assumption), .inl h2⟩
  · cases h2
theorem XOk.gl (o : XOk g F c X) {x : Str} (h : c.gl x = true) : Gl X x ∧ (x == ("__debug__" : Str)) = false ∧ x ≠ "__name__" := by
  unfold Sc.gl at h
  simp only [Bool.and_eq_true, decide_eq_true_eq, Bool.not_eq_true'] at h
  obtain ⟨⟨h1, h2⟩, h3⟩ := h
  refine ⟨?_, h2, h3⟩
  show X.env.scope.names.lookup x = some .globalImplicit
  rw [o.sc]; exact h1
theorem XOk.blt (o : XOk g F c X) {x : Str} (h : c.blt x = true) : Gl X x ∧ X.mg x = none ∧ (x == ("__debug__" : Str)) = false ∧ x ≠ "__name__" := by
  unfold Sc.blt at h
  simp only [Bool.and_eq_true, decide_eq_true_eq] at h
  obtain ⟨h1, h2, h3⟩ := o.gl h.1
  exact ⟨h1, o.bn x h.2, h2, h3⟩
end
theorem mtA_noStar : ∀ {a : Sx} {c : Sc} {es : List Expr}, mt a c (.a es) = true → es.all notStar = true := by
  intro a
  induction a with
  | nil =>
    intro c es h
    cases es with
    | nil => rfl
    | cons x r => cases h
  | cons e a _ ih =>
    intro c es h
    cases es with
    | nil => rfl
    | cons x r =>
      simp only [mt, Bool.and_eq_true] at h
      rw [List.all_cons, Bool.and_eq_true]
      exact ⟨h.1.1, ih h.2⟩
  | _ => intro c es h; simp [mt, Syn.ex?] at h
theorem mtT_noStar : ∀ {a : Sx} {c : Sc} {es : List Expr}, mt a c (.ts es) = true → es.all notStar = true := by
  intro a
  induction a with
  | nil =>
    intro c es h
    cases es with
    | nil => rfl
    | cons x r => cases h
  | cons e a _ ih =>
    intro c es h
    cases es with
    | nil => rfl
    | cons x r =>
      simp only [mt, Bool.and_eq_true] at h
      rw [List.all_cons, Bool.and_eq_true]
      exact ⟨h.1.1, ih h.2⟩
  | _ => intro c es h; simp [mt, Syn.ex?] at h

/-- all that is told of a piece -/
structure Snd (g : Gc) (F : Nat → List D → M D) (fa : Option Addr) (e : Sx) : Prop where
  ex : ∀ c X E, XOk g F c X → mt e c (.e E) = true → PE X E (tG g fa .p (ev F e))
  fr : ∀ c X E, XOk g F c X → mt e c (.e E) = true → isFr e = true → PE X E (tG g fa .f (ev F e))
  rd : ∀ c X E, XOk g F c X → mt e c (.e E) = true → PE X E (tG g fa .v (rdv e (ev F e)))
  ts : ∀ c X E, XOk g F c X → isNone_ e = false → mt e c (.e E) = true → PT X E (tB1 g fa (tst e (ev F e)))
  ar : ∀ c X es, XOk g F c X → mt e c (.a es) = true → PA X es (tArg g fa (ev F e)) ∧ (∀ kws : List Keyword, kws.map (·.value) = es → PK X kws (tArg g fa (ev F e))) ∧ ∀ ρ Q, WP (ev F e ρ) Q → WP (ev F e ρ) fun d => Q d ∧ ∀ ds, d = .list ds → ds.length = es.length
  tg : ∀ c X E, XOk g F c X → mt e c (.t E) = true → PG X E (gT g fa (slotsOf e) (tgt e))
  tgs : ∀ c X es, XOk g F c X → mt e c (.ts es) = true → PGs X es (gTs g fa (slotsOf e) (tgt e)) ∧ ∀ ρ ds Q, WP (tgt e (.list ds) ρ) Q → ds.length = es.length
  it : ∀ c X tg E, XOk g F c X → mt e c (.i tg E) = true → PI X tg E (tWE g fa (itmv e (ev F e))) ∧ PI X tg E (tWD g fa fun ρ => (ev F e ρ).bind itmD)
  op : ∀ c X x, XOk g F c X → mt e c (.o x) = true → PO X x (tOpt g fa (optv e (ev F e)))
  fs : ∀ c X xs, XOk g F c X → mt e c (.f xs) = true → PTs X xs (tB1 g fa (tst e (ev F e)))
  sw : ∀ c X E x p pos i, XOk g F c X → mt e c (.e E) = true → c.swp (.Name x p) E = true → X.N[i]? = some x → ∃ t, PS X (.Assign [.Name x p] E pos) (tAsg t (gName i)) ∧ ∀ σ H Q, tG g fa .f (ev F e) σ H Q → t σ H Q
theorem ts_nil {X : Cx} {g : Gc} {fa : Option Addr} : PTs X [] (tB1 g fa fun _ => .ret true) := ⟨fun ps s σ H Q I ⟨H0, ρ, R, w⟩ => pts_nil.run ps s σ H Q I (w H0 H (Ext.refl R.bs))⟩
section
variable {g : Gc} {F : Nat → List D → M D} {fa : Option Addr} {e : Sx}
/-- an expression that is no name -/
theorem Snd.mk' (hv : ∀ f, rdv e f = f) (ht : ∀ f, tst e f = fun ρ => (rdv e f ρ).bind truD) (ho : ∀ f, optv e f = fun ρ => (f ρ).bind fun d => (intD d).bind fun i => .ret (some i)) (hn : ∀ c y, mt e c y = true → ∃ E, y.ex? = some E)
    (hx : ∀ c X E, XOk g F c X → mt e c (.e E) = true → PE X E (tG g fa .p (ev F e)))
    (hf : ∀ c X E, XOk g F c X → mt e c (.e E) = true → isFr e = true → PE X E (tG g fa .f (ev F e)))
    (hy : ∀ c y E, y.ex? = some E → mt e c y = true → mt e c (.e E) = true)
    (hT : ∀ c X E, XOk g F c X → mt e c (.e E) = true → PT X E (tB1 g fa (tst e (ev F e))))
    (hs : ∀ c X E x p pos i, XOk g F c X → mt e c (.e E) = true → c.swp (.Name x p) E = true → X.N[i]? = some x → ∃ t, PS X (.Assign [.Name x p] E pos) (tAsg t (gName i)) ∧ ∀ σ H Q, tG g fa .f (ev F e) σ H Q → t σ H Q) : Snd g F fa e where
  ex := hx
  fr := hf
  rd := fun c X E o h => by rw [hv]; exact v_of_p (hx c X E o h)
  ts := fun c X E o _ h => hT c X E o h
  ar := fun c X es o h => by obtain ⟨E, q⟩ := hn c _ h; cases q
  tg := fun c X E o h => by obtain ⟨E, q⟩ := hn c _ h; cases q
  tgs := fun c X es o h => by obtain ⟨E, q⟩ := hn c _ h; cases q
  it := fun c X tg E o h => by
    obtain ⟨E', q⟩ := hn c _ h
    have he : E' = E := by
      have q : (if notSet E = true then some E else none) = some E' := q
      split at q
      · cases q; rfl
      · cases q
    subst he
    have hp := hx c X E' o (hy c _ E' q h)
    exact ⟨by unfold itmv; rw [hv]; exact w_e (w_val o.K hp), w_val o.K hp⟩
  op := fun c X x o h => by
    obtain ⟨E, q⟩ := hn c _ h
    cases x with
    | none => cases q
    | some x =>
      rw [ho]
      exact s_optS (hx c X x o (hy c (.o (some x)) x rfl h))
  fs := fun c X xs o h => by
    obtain ⟨E, q⟩ := hn c _ h
    cases xs with
    | nil => cases q
    | cons x r =>
      cases r with
      | nil => exact ⟨fun ps s σ H Q I w => (pts_one (hT c X x o (hy c (.f [x]) x rfl h))).run ps s σ H Q I w⟩
      | cons _ _ => cases q
  sw := hs
end
end Pf
/-! PfL: soundness, piece by piece. -/
namespace Pf
open PySem PySem.Spec PyProof.Rows L2
section
variable {g : Gc} {F : Nat → List D → M D} {fa : Option Addr}
theorem swp_comp {c : Sc} {t E : Expr} (h : c.swp t E = true) : notComp E = false := by
  unfold Sc.swp at h
  split at h
  · rfl
  · cases h
/-- how a piece hangs on its tree alone -/
def ExOnly (e : Sx) : Prop := (∀ c y, mt e c y = true → ∃ E, y.ex? = some E) ∧ ∀ c y E, y.ex? = some E → mt e c y = true → mt e c (.e E) = true
theorem Snd.gen {e : Sx} (hv : ∀ f, rdv e f = f) (ht : ∀ f, tst e f = fun ρ => (rdv e f ρ).bind truD) (ho : ∀ f, optv e f = fun ρ => (f ρ).bind fun d => (intD d).bind fun i => .ret (some i)) (hn : ExOnly e)
    (hp : ∀ c X E, XOk g F c X → mt e c (.e E) = true → PE X E (tG g fa .p (ev F e)) ∧ (isFr e = true → PE X E (tG g fa .f (ev F e))) ∧ notComp E = true)
    (hT : ∀ c X E, XOk g F c X → mt e c (.e E) = true → PT X E (tB1 g fa (tst e (ev F e)))) : Snd g F fa e :=
  Snd.mk' hv ht ho hn.1 (fun c X E o h => (hp c X E o h).1) (fun c X E o h h3 => (hp c X E o h).2.1 h3) hn.2 hT
    (fun c X E x p pos i o h hw => by have := swp_comp hw; rw [(hp c X E o h).2.2] at this; cases this)
theorem Snd.f {e : Sx} (hv : ∀ f, rdv e f = f) (ht : ∀ f, tst e f = fun ρ => (rdv e f ρ).bind truD) (ho : ∀ f, optv e f = fun ρ => (f ρ).bind fun d => (intD d).bind fun i => .ret (some i)) (hn : ExOnly e)
    (hp : ∀ c X E, XOk g F c X → mt e c (.e E) = true → PE X E (tG g fa .f (ev F e)) ∧ plainT E = true ∧ notComp E = true) : Snd g F fa e :=
  Snd.gen hv ht ho hn (fun c X E o h => ⟨p_of_f (hp c X E o h).1, fun _ => (hp c X E o h).1, (hp c X E o h).2.2⟩)
    (fun c X E o h => by rw [ht, hv]; exact t_truth o.K (true_of (hp c X E o h).2.1) (v_of_p (p_of_f (hp c X E o h).1)))
theorem Snd.p {e : Sx} (hv : ∀ f, rdv e f = f) (ht : ∀ f, tst e f = fun ρ => (rdv e f ρ).bind truD) (ho : ∀ f, optv e f = fun ρ => (f ρ).bind fun d => (intD d).bind fun i => .ret (some i)) (hn : ExOnly e) (hf : isFr e = false)
    (hp : ∀ c X E, XOk g F c X → mt e c (.e E) = true → PE X E (tG g fa .p (ev F e)) ∧ plainT E = true ∧ notComp E = true) : Snd g F fa e :=
  Snd.gen hv ht ho hn (fun c X E o h => ⟨(hp c X E o h).1, fun z => by (rw [hf] at z; cases z), (hp c X E o h).2.2⟩)
    (fun c X E o h => by rw [ht, hv]; exact t_truth o.K (true_of (hp c X E o h).2.1) (v_of_p (hp c X E o h).1))
theorem exonly_of {e : Sx} (h : ∀ c y, mt e c y = match y.ex? with
    | some E => mt e c (.e E)
    | none => false) : ExOnly e := by
  refine ⟨fun c y q => ?_, fun c y E h1 q => ?_⟩
  · rw [h] at q
    cases he : y.ex? with
    | none => rw [he] at q; cases q
    | some E => exact ⟨E, rfl⟩
  · rw [h, h1] at q
    exact q

theorem cst_ok {X : Cx} {k : Const} {d : D} {j : Nat} {p : Pos} {m : Md} (h : cstOk k d = true) : PE X (.Constant k j p) (tG g fa m fun _ => .ret d) := by
  unfold cstOk at h
  split at h
  · exact s_const pe_non (fun _ => .non) (fun _ z => by cases z)
  · cases eq_of_beq h; exact s_const pe_bl (fun _ => .bl _) (fun _ z => by cases z)
  · cases of_decide_eq_true h; exact s_const pe_int (fun _ => .int _) (fun _ z => by cases z)
  · cases of_decide_eq_true h; exact s_const pe_str (fun _ => .str _) (fun _ z => by cases z)
  · cases h
theorem snd_cst (d : D) : Snd g F fa (.cst d) := by
  refine Snd.f (fun _ => rfl) (fun _ => rfl) (fun _ => rfl) (exonly_of fun c y => by cases h : y.ex? <;> simp only [mt, h] <;> rfl) fun c X E o h => ?_
  simp only [mt, Syn.ex?] at h
  split at h
  · rename_i q
    cases q
    exact ⟨cst_ok h, rfl, rfl⟩
  · cases h
theorem eqS_eq {a b : D} (h : eqS a b = true) : a = b := by
  unfold eqS at h
  split at h
  · rw [of_decide_eq_true h]
  · rw [of_decide_eq_true h]
  · cases h
theorem snd_glob (x : Str) (d : D) : Snd g F fa (.glob x d) := by
  refine Snd.f (fun _ => rfl) (fun _ => rfl) (fun _ => rfl) (exonly_of fun c y => by cases h : y.ex? <;> simp only [mt, h] <;> rfl) fun c X E o h => ?_
  simp only [mt, Syn.ex?] at h
  split at h
  · rename_i q
    cases q
    simp only [Bool.and_eq_true, decide_eq_true_eq, List.any_eq_true] at h
    obtain ⟨⟨h1, h2⟩, ⟨x', d'⟩, hm, h3, h4⟩ := h
    subst h1
    dsimp only at h3 h4
    subst h3
    have := eqS_eq h4
    subst this
    obtain ⟨u, v, hu, r, rp, hd⟩ := o.cs _ _ hm
    obtain ⟨g1, g2, g3⟩ := o.gl h2
    exact ⟨s_const (pe_glob g1 hu r g2) (fun H => rp fa H) hd, rfl, rfl⟩
  · cases h
theorem snd_fref (x : Str) (k : Nat) : Snd g F fa (.fref x k) := by
  refine Snd.f (fun _ => rfl) (fun _ => rfl) (fun _ => rfl) (exonly_of fun c y => by cases h : y.ex? <;> simp only [mt, h] <;> rfl) fun c X E o h => ?_
  simp only [mt, Syn.ex?] at h
  split at h
  · rename_i q
    cases q
    simp only [Bool.and_eq_true, decide_eq_true_eq] at h
    obtain ⟨⟨h1, h2⟩, h3⟩ := h
    subst h1
    cases ht : c.tb[k]? with
    | none => rw [ht] at h3; cases h3
    | some p =>
      obtain ⟨nm, ps⟩ := p
      rw [ht] at h3
      cases h3
      obtain ⟨lv, r1, r2, r3⟩ := o.rm
      obtain ⟨g1, g2, g3⟩ := o.gl h2
      exact ⟨s_fref (r2 k _ ps ht) g1 g2, rfl, rfl⟩
  · cases h
theorem opEq_eq {o : Op2} {op : Operator} (h : opEq o op = true) : op = toOp o := by
  cases o <;> cases op <;> first | rfl | cases h
theorem cmEq_eq {o : Cm} {op : CmpOp} (h : cmEq o op = true) : op = toCm o := by
  cases o <;> cases op <;> first | rfl | cases h
theorem snd_bin (o : Op2) {a b : Sx} (ha : Snd g F fa a) (hb : Snd g F fa b) : Snd g F fa (.bin o a b) := by
  refine Snd.f (fun _ => rfl) (fun _ => rfl) (fun _ => rfl) (exonly_of fun c y => by cases h : y.ex? <;> simp only [mt, h] <;> rfl) fun c X E k h => ?_
  simp only [mt, Syn.ex?] at h
  split at h
  · rename_i q
    cases q
    simp only [Bool.and_eq_true] at h
    obtain ⟨⟨h1, h2⟩, h3⟩ := h
    have := opEq_eq h1
    subst this
    exact ⟨s_bin o k.K (ha.rd c X _ k h2) (hb.rd c X _ k h3), rfl, rfl⟩
  · cases h
theorem snd_cmp (o : Cm) {a b : Sx} (ha : Snd g F fa a) (hb : Snd g F fa b) : Snd g F fa (.cmp o a b) := by
  have key : ∀ c X E, XOk g F c X → mt (.cmp o a b) c (.e E) = true → PE X E (tG g fa .f (ev F (.cmp o a b))) ∧ PT X E (tB1 g fa (tst (.cmp o a b) (ev F (.cmp o a b)))) ∧ notComp E = true := fun c X E k h => by
    simp only [mt, Syn.ex?] at h
    split at h
    · rename_i q
      cases q
      simp only [Bool.and_eq_true] at h
      obtain ⟨⟨⟨h1, h2⟩, h3⟩, h4⟩ := h
      have := cmEq_eq h1
      subst this
      have hu : X.A.units + 65 < cLine := Nat.lt_of_succ_lt k.u
      exact ⟨s_cmp o k.K hu (mark_of h2) (ha.rd c X _ k h3) (hb.rd c X _ k h4), t_cmp o k.K hu (mark_of h2) (ha.rd c X _ k h3) (hb.rd c X _ k h4), rfl⟩
    · cases h
  exact Snd.gen (fun _ => rfl) (fun _ => rfl) (fun _ => rfl) (exonly_of fun c y => by cases h : y.ex? <;> simp only [mt, h] <;> rfl) (fun c X E k h => ⟨p_of_f (key c X E k h).1, fun _ => (key c X E k h).1, (key c X E k h).2.2⟩) fun c X E k h => (key c X E k h).2.1
theorem snd_chain (o o' : Cm) {a b d : Sx} (ha : Snd g F fa a) (hb : Snd g F fa b) (hd : Snd g F fa d) : Snd g F fa (.chain o o' a b d) := by
  have key : ∀ c X E, XOk g F c X → mt (.chain o o' a b d) c (.e E) = true → PE X E (tG g fa .f (ev F (.chain o o' a b d))) ∧ PT X E (tB1 g fa (tst (.chain o o' a b d) (ev F (.chain o o' a b d)))) ∧ notComp E = true := fun c X E k h => by
    simp only [mt, Syn.ex?] at h
    split at h
    · rename_i q
      cases q
      simp only [Bool.and_eq_true] at h
      obtain ⟨⟨⟨⟨⟨h1, h2⟩, h3⟩, h4⟩, h5⟩, h6⟩ := h
      have := cmEq_eq h1
      subst this
      have := cmEq_eq h2
      subst this
      have hu : X.A.units + 65 < cLine := Nat.lt_of_succ_lt k.u
      have hm := mark_of (op := toCm o') h3
      exact ⟨s_chain o o' k.K hu hm (ha.rd c X _ k h4) (hb.rd c X _ k h5) (hd.rd c X _ k h6), t_chain o o' k.K hu hm (ha.rd c X _ k h4) (hb.rd c X _ k h5) (hd.rd c X _ k h6), rfl⟩
    · cases h
  exact Snd.gen (fun _ => rfl) (fun _ => rfl) (fun _ => rfl) (exonly_of fun c y => by cases h : y.ex? <;> simp only [mt, h] <;> rfl) (fun c X E k h => ⟨p_of_f (key c X E k h).1, fun _ => (key c X E k h).1, (key c X E k h).2.2⟩) fun c X E k h => (key c X E k h).2.1
theorem snd_neg {a : Sx} (ha : Snd g F fa a) : Snd g F fa (.neg a) := by
  refine Snd.f (fun _ => rfl) (fun _ => rfl) (fun _ => rfl) (exonly_of fun c y => by cases h : y.ex? <;> simp only [mt, h] <;> rfl) fun c X E k h => ?_
  simp only [mt, Syn.ex?] at h
  split at h
  · rename_i q
    cases q
    exact ⟨s_neg (ha.ex c X _ k h), rfl, rfl⟩
  · cases h
theorem tst_eq {a : Sx} (h : isNone_ a = false) (f : Ev → M D) : tst a f = fun ρ => (rdv a f ρ).bind truD := by
  cases a <;> first | rfl | cases h
theorem snd_nt {a : Sx} (ha : Snd g F fa a) : Snd g F fa (.nt a) := by
  have key : ∀ c X E, XOk g F c X → mt (.nt a) c (.e E) = true → PE X E (tG g fa .f (ev F (.nt a))) ∧ PT X E (tB1 g fa (tst (.nt a) (ev F (.nt a)))) ∧ notComp E = true := fun c X E k h => by
    simp only [mt, Syn.ex?] at h
    split at h
    · rename_i q
      cases q
      simp only [Bool.and_eq_true, Bool.not_eq_true'] at h
      obtain ⟨h1, h2⟩ := h
      refine ⟨?_, t_not (ha.ts c X _ k h1 h2), rfl⟩
      have := s_nt (pos := by assumption) k.K (ha.rd c X _ k h2)
      show PE X _ (tG g fa .f fun ρ => (tst a (ev F a) ρ).bind fun k => .ret (.bool !k))
      rw [tst_eq h1]
      exact this
    · cases h
  exact Snd.gen (fun _ => rfl) (fun _ => rfl) (fun _ => rfl) (exonly_of fun c y => by cases h : y.ex? <;> simp only [mt, h] <;> rfl) (fun c X E k h => ⟨p_of_f (key c X E k h).1, fun _ => (key c X E k h).1, (key c X E k h).2.2⟩) fun c X E k h => (key c X E k h).2.1
theorem wp_and {f1 f2 : Ev → M D} {ρ : Ev} {Q : Bool → Prop} (w : WP (((f1 ρ).bind fun x => (truD x).bind fun k => if k = true then f2 ρ else .ret x).bind truD) Q) : WP (((f1 ρ).bind truD).bind fun k => if k = true then (f2 ρ).bind truD else .ret false) Q := by
  refine WP.bind.mpr (WP.bind.mpr ((WP.bind.mp (WP.bind.mp w)).mono fun x w => ?_))
  obtain ⟨k, e, w⟩ := truD_ret (WP.bind.mp w)
  rw [e]
  cases k with
  | true => exact WP.bind.mpr w
  | false =>
    have w : WP (truD x) Q := w
    rw [e] at w
    exact w
theorem wp_or {f1 f2 : Ev → M D} {ρ : Ev} {Q : Bool → Prop} (w : WP (((f1 ρ).bind fun x => (truD x).bind fun k => if k = true then .ret x else f2 ρ).bind truD) Q) : WP (((f1 ρ).bind truD).bind fun k => if k = true then .ret true else (f2 ρ).bind truD) Q := by
  refine WP.bind.mpr (WP.bind.mpr ((WP.bind.mp (WP.bind.mp w)).mono fun x w => ?_))
  obtain ⟨k, e, w⟩ := truD_ret (WP.bind.mp w)
  rw [e]
  cases k with
  | false => exact WP.bind.mpr w
  | true =>
    have w : WP (truD x) Q := w
    rw [e] at w
    exact w
theorem rd_ts {a : Sx} {c : Sc} {X : Cx} {E : Expr} (ha : Snd g F fa a) (k : XOk g F c X) (h : mt a c (.e E) = true) : PT X E (tB1 g fa fun ρ => (ev F a ρ).bind truD) := by
  by_cases hn : isNone_ a = true
  · cases a <;> first | (cases hn; done) | (cases h; done) | skip
  · have := ha.ts c X E k (by simpa using hn) h
    rw [tst_eq (by simpa using hn)] at this
    refine pt_weak this fun ρ Q w => ?_
    cases a <;> first | exact w | skip
    rename_i i
    have w : WP ((gs ρ i).bind truD) Q := w
    obtain ⟨d, hd, w⟩ := gs_ok (WP.bind.mp w)
    show WP ((gr ρ i).bind truD) Q
    unfold gr
    rw [hd]
    exact w
theorem snd_and {a b : Sx} (ha : Snd g F fa a) (hb : Snd g F fa b) : Snd g F fa (.and a b) := by
  have key : ∀ c X E, XOk g F c X → mt (.and a b) c (.e E) = true → PE X E (tG g fa .p (ev F (.and a b))) ∧ PT X E (tB1 g fa (tst (.and a b) (ev F (.and a b)))) ∧ notComp E = true := fun c X E k h => by
    simp only [mt, Syn.ex?] at h
    split at h
    · rename_i q
      cases q
      simp only [Bool.and_eq_true] at h
      obtain ⟨h1, h2⟩ := h
      exact ⟨s_and k.K (ha.ex c X _ k h1) (pe_one (hb.ex c X _ k h2)), (pw_weak (t_and (rd_ts ha k h1) (pw_and1 (rd_ts hb k h2))) fun ρ Q w => wp_and w).pt, rfl⟩
    · rename_i q
      cases q
      simp only [Bool.and_eq_true] at h
      obtain ⟨h1, h2⟩ := h
      refine ⟨s_and k.K (ha.ex c X _ k h1) (hb.ex c X _ k h2), (pw_weak (t_and (rd_ts ha k h1) ?_) fun ρ Q w => wp_and w).pt, rfl⟩
      have := rd_ts hb k h2
      exact ⟨fun wh ps s σ H Q I q => this.run ps s σ H Q I q⟩
    · cases h
  exact Snd.gen (fun _ => rfl) (fun _ => rfl) (fun _ => rfl) (exonly_of fun c y => by cases h : y.ex? <;> simp only [mt, h] <;> rfl) (fun c X E k h => ⟨(key c X E k h).1, (fun z => by cases z), (key c X E k h).2.2⟩) fun c X E k h => (key c X E k h).2.1
theorem snd_or {a b : Sx} (ha : Snd g F fa a) (hb : Snd g F fa b) : Snd g F fa (.or a b) := by
  have key : ∀ c X E, XOk g F c X → mt (.or a b) c (.e E) = true → PE X E (tG g fa .p (ev F (.or a b))) ∧ PT X E (tB1 g fa (tst (.or a b) (ev F (.or a b)))) ∧ notComp E = true := fun c X E k h => by
    simp only [mt, Syn.ex?] at h
    split at h
    · rename_i q
      cases q
      simp only [Bool.and_eq_true] at h
      obtain ⟨h1, h2⟩ := h
      exact ⟨s_or k.K (ha.ex c X _ k h1) (pe_one (hb.ex c X _ k h2)), (pw_weak (t_or (rd_ts ha k h1) (pw_or1 (rd_ts hb k h2))) fun ρ Q w => wp_or w).pt, rfl⟩
    · rename_i q
      cases q
      simp only [Bool.and_eq_true] at h
      obtain ⟨h1, h2⟩ := h
      refine ⟨s_or k.K (ha.ex c X _ k h1) (hb.ex c X _ k h2), (pw_weak (t_or (rd_ts ha k h1) ?_) fun ρ Q w => wp_or w).pt, rfl⟩
      have := rd_ts hb k h2
      exact ⟨fun wh ps s σ H Q I q => this.run ps s σ H Q I q⟩
    · cases h
  exact Snd.gen (fun _ => rfl) (fun _ => rfl) (fun _ => rfl) (exonly_of fun c y => by cases h : y.ex? <;> simp only [mt, h] <;> rfl) (fun c X E k h => ⟨(key c X E k h).1, (fun z => by cases z), (key c X E k h).2.2⟩) fun c X E k h => (key c X E k h).2.1
theorem snd_ifx {d a b : Sx} (hd : Snd g F fa d) (ha : Snd g F fa a) (hb : Snd g F fa b) : Snd g F fa (.ifx d a b) := by
  have key : ∀ c X E, XOk g F c X → mt (.ifx d a b) c (.e E) = true → PE X E (tG g fa .p (ev F (.ifx d a b))) ∧ PT X E (tB1 g fa (tst (.ifx d a b) (ev F (.ifx d a b)))) ∧ notComp E = true := fun c X E k h => by
    simp only [mt, Syn.ex?] at h
    split at h
    · rename_i q
      cases q
      simp only [Bool.and_eq_true, Bool.not_eq_true'] at h
      obtain ⟨⟨⟨h1, h2⟩, h3⟩, h4⟩ := h
      refine ⟨s_ifx (hd.ts c X _ k h1 h2) (ha.ex c X _ k h3) (hb.ex c X _ k h4), pt_weak (t_if (hd.ts c X _ k h1 h2) (rd_ts ha k h3) (rd_ts hb k h4)) fun ρ Q w => ?_, rfl⟩
      have w : WP (((tst d (ev F d) ρ).bind fun k => if k = true then ev F a ρ else ev F b ρ).bind truD) Q := w
      refine WP.bind.mpr ((WP.bind.mp (WP.bind.mp w)).mono fun k w => ?_)
      cases k with
      | true => exact WP.bind.mpr w
      | false => exact WP.bind.mpr w
    · cases h
  exact Snd.gen (fun _ => rfl) (fun _ => rfl) (fun _ => rfl) (exonly_of fun c y => by cases h : y.ex? <;> simp only [mt, h] <;> rfl) (fun c X E k h => ⟨(key c X E k h).1, (fun z => by cases z), (key c X E k h).2.2⟩) fun c X E k h => (key c X E k h).2.1
theorem snd_idx {a b : Sx} (ha : Snd g F fa a) (hb : Snd g F fa b) : Snd g F fa (.idx a b) := by
  refine Snd.p (fun _ => rfl) (fun _ => rfl) (fun _ => rfl) (exonly_of fun c y => by cases h : y.ex? <;> simp only [mt, h] <;> rfl) rfl fun c X E k h => ?_
  simp only [mt, Syn.ex?] at h
  split at h
  · rename_i q
    cases q
    simp only [Bool.and_eq_true] at h
    obtain ⟨⟨h1, h2⟩, h3⟩ := h
    exact ⟨s_idx k.K (ix_of h1) (ha.rd c X _ k h2) (hb.ex c X _ k h3), rfl, rfl⟩
  · cases h
theorem snd_sl {a lo hi : Sx} (ha : Snd g F fa a) (hl : Snd g F fa lo) (hh : Snd g F fa hi) : Snd g F fa (.sl a lo hi) := by
  refine Snd.f (fun _ => rfl) (fun _ => rfl) (fun _ => rfl) (exonly_of fun c y => by cases h : y.ex? <;> simp only [mt, h] <;> rfl) fun c X E k h => ?_
  simp only [mt, Syn.ex?] at h
  split at h
  · rename_i q
    cases q
    simp only [Bool.and_eq_true] at h
    obtain ⟨⟨h1, h2⟩, h3⟩ := h
    exact ⟨s_sl k.K (ha.rd c X _ k h1) (hl.op c X _ k h2) (hh.op c X _ k h3), rfl, rfl⟩
  · cases h
theorem snd_lst {a : Sx} (ha : Snd g F fa a) : Snd g F fa (.lst a) := by
  refine Snd.f (fun _ => rfl) (fun _ => rfl) (fun _ => rfl) (exonly_of fun c y => by cases h : y.ex? <;> simp only [mt, h] <;> rfl) fun c X E k h => ?_
  simp only [mt, Syn.ex?] at h
  split at h
  · rename_i q
    cases q
    exact ⟨s_lst (ha.ar c X _ k h).1, rfl, rfl⟩
  · cases h
theorem snd_bi (b : Bi) {a : Sx} (ha : Snd g F fa a) : Snd g F fa (.bi b a) := by
  refine Snd.f (fun _ => rfl) (fun _ => rfl) (fun _ => rfl) (exonly_of fun c y => by cases h : y.ex? <;> simp only [mt, h] <;> rfl) fun c X E k h => ?_
  simp only [mt, Syn.ex?] at h
  split at h
  · rename_i q
    cases q
    simp only [Bool.and_eq_true, decide_eq_true_eq] at h
    obtain ⟨⟨⟨h1, h2⟩, h3⟩, h4⟩ := h
    subst h1
    obtain ⟨g1, g2, g3, g4⟩ := k.blt h2
    exact ⟨s_bi b k.K k.calm k.gd k.u g1 g2 (star_of h3) (ha.rd c X _ k h4), rfl, rfl⟩
  · cases h
theorem snd_biIf (b : Bi) {d a e : Sx} (hd : Snd g F fa d) (ha : Snd g F fa a) (he : Snd g F fa e) : Snd g F fa (.biIf b d a e) := by
  refine Snd.f (fun _ => rfl) (fun _ => rfl) (fun _ => rfl) (exonly_of fun c y => by cases h : y.ex? <;> simp only [mt, h] <;> rfl) fun c X E k h => ?_
  simp only [mt, Syn.ex?] at h
  split at h
  · rename_i q
    cases q
    simp only [Bool.and_eq_true, decide_eq_true_eq, Bool.not_eq_true'] at h
    obtain ⟨⟨⟨⟨⟨h1, h2⟩, h3⟩, h4⟩, h5⟩, h6⟩ := h
    subst h1
    obtain ⟨g1, g2, g3, g4⟩ := k.blt h2
    exact ⟨s_bi b k.K k.calm k.gd k.u g1 g2 (star_of rfl) (s_ifxV (hd.ts c X _ k h3 h4) (ha.rd c X _ k h5) (he.rd c X _ k h6)), rfl, rfl⟩
  · cases h
theorem ty_boot (t : Ty) : bootBuiltins (tyStr t) = some (.type (tyName t)) := by cases t <;> decide +kernel
theorem snd_isi {a : Sx} (t : Ty) (ha : Snd g F fa a) : Snd g F fa (.isi a t) := by
  refine Snd.f (fun _ => rfl) (fun _ => rfl) (fun _ => rfl) (exonly_of fun c y => by cases h : y.ex? <;> simp only [mt, h] <;> rfl) fun c X E k h => ?_
  simp only [mt, Syn.ex?] at h
  split at h
  · rename_i q
    cases q
    simp only [Bool.and_eq_true, decide_eq_true_eq] at h
    obtain ⟨⟨⟨⟨⟨h1, h2⟩, h3⟩, h4⟩, h5⟩, h6⟩ := h
    subst h1 h3
    obtain ⟨g1, g2, g3, g4⟩ := k.blt h2
    obtain ⟨t1, t2, t3, t4⟩ := k.blt h4
    exact ⟨s_isi t (ty_boot t) k.K g1 g2 t1 t2 t4 t3 (star_of h5) (ha.rd c X _ k h6), rfl, rfl⟩
  · cases h
theorem snd_upper {a : Sx} (ha : Snd g F fa a) : Snd g F fa (.upper a) := by
  refine Snd.f (fun _ => rfl) (fun _ => rfl) (fun _ => rfl) (exonly_of fun c y => by cases h : y.ex? <;> simp only [mt, h] <;> rfl) fun c X E k h => ?_
  simp only [mt, Syn.ex?] at h
  split at h
  · rename_i q
    cases q
    simp only [Bool.and_eq_true, decide_eq_true_eq] at h
    obtain ⟨⟨⟨h1, h2⟩, h3⟩, h4⟩ := h
    subst h1
    exact ⟨s_upper (base_of h2) h3 (ha.ex c X _ k h4), rfl, rfl⟩
  · cases h
theorem snd_call (j : Nat) {a : Sx} (ha : Snd g F fa a) : Snd g F fa (.call j a) := by
  refine Snd.p (fun _ => rfl) (fun _ => rfl) (fun _ => rfl) (exonly_of fun c y => by cases h : y.ex? <;> simp only [mt, h] <;> rfl) rfl fun c X E k h => ?_
  simp only [mt, Syn.ex?] at h
  split at h
  · rename_i q
    cases q
    simp only [Bool.and_eq_true, decide_eq_true_eq] at h
    obtain ⟨⟨h1, h2⟩, h3⟩ := h
    obtain ⟨lv, r1, r2, r3⟩ := k.rm
    obtain ⟨g1, g2, g3⟩ := k.gl h1
    cases ht : c.tb[j]? with
    | none => rw [ht] at h2; cases h2
    | some p =>
      obtain ⟨nm, ps⟩ := p
      rw [ht] at h2
      cases h2
      have G := r2 j _ ps ht
      have hst := mtA_noStar h3
      rename_i args _
      cases args with
      | nil =>
        refine ⟨?_, rfl, rfl⟩
        have hp := (ha.ar c X [] k h3).1
        refine pe_imp (s_call0 (fa := fa) G r1 k.gd g1 g2) fun σ H Q ⟨H0, ρ, R, w⟩ => ⟨H0, ρ, R, ?_⟩
        cases a <;> first | (simp [mt, Syn.ex?] at h3; done) | exact w
      | cons z args =>
        rw [List.all_cons, Bool.and_eq_true] at hst
        exact ⟨s_call G r1 k.gd g1 (ha.ar c X _ k h3).1 g2 (star_of hst.1) (noStars hst.2), rfl, rfl⟩
  · cases h
theorem snd_callv (i : Nat) {a : Sx} (ha : Snd g F fa a) : Snd g F fa (.callv i a) := by
  refine Snd.p (fun _ => rfl) (fun _ => rfl) (fun _ => rfl) (exonly_of fun c y => by cases h : y.ex? <;> simp only [mt, h] <;> rfl) rfl fun c X E k h => ?_
  simp only [mt, Syn.ex?] at h
  split at h
  · rename_i q
    cases q
    simp only [Bool.and_eq_true] at h
    obtain ⟨h1, h3⟩ := h
    obtain ⟨lv, r1, r2, r3⟩ := k.rm
    obtain ⟨v1, v2, v3, v4⟩ := k.vis h1
    have hst := mtA_noStar h3
    rw [List.all_cons, Bool.and_eq_true] at hst
    exact ⟨s_callv r3 r1 k.gd v1 v2 (ha.ar c X _ k h3).1 v3 v4 (star_of hst.1) (noStars hst.2), rfl, rfl⟩
  · cases h
theorem snd_callk (j : Nat) (pm : List Nat) {a : Sx} (ha : Snd g F fa a) : Snd g F fa (.callk j pm a) := by
  refine Snd.p (fun _ => rfl) (fun _ => rfl) (fun _ => rfl) (exonly_of fun c y => by cases h : y.ex? <;> simp only [mt, h] <;> rfl) rfl fun c X E k h => ?_
  simp only [mt, Syn.ex?] at h
  split at h
  · rename_i q
    cases q
    rename_i q kws _
    simp only [Bool.and_eq_true, decide_eq_true_eq, List.any_eq_true] at h
    obtain ⟨⟨⟨h1, h2⟩, ⟨⟨z1, z2, z3⟩, hz, ⟨e1, e2⟩, e3⟩⟩, h3⟩ := h
    dsimp only at e1 e2 e3
    subst e1 e2
    obtain ⟨g1, g2, g3⟩ := k.gl h1
    cases ht : c.tb[z1]? with
    | none => rw [ht] at h2; cases h2
    | some p =>
      obtain ⟨nm, ps⟩ := p
      rw [ht] at h2
      cases h2
      obtain ⟨lv, j, ad, fd, r1, r2, r3, r4, r5, r6, r7⟩ := k.kb _ _ _ _ _ hz ht
      obtain ⟨_, hk, hl⟩ := ha.ar c X _ k h3
      refine ⟨s_callk r2 r3 r4 r5 r6 r7 r1 k.gd g1 g2 (hk _ rfl) (fun ρ Q w => (hl ρ Q w).mono fun d ⟨q1, q2⟩ => ⟨q1, fun ds e => ?_⟩) e3, rfl, rfl⟩
      rw [q2 ds e, List.length_map, ← List.length_map (f := fun x : Keyword => x.arg), e3, List.length_map]
  · cases h
theorem snd_fld (i q : Nat) : Snd g F fa (.fld i q) := by
  refine Snd.p (fun _ => rfl) (fun _ => rfl) (fun _ => rfl) (exonly_of fun c y => by cases h : y.ex? <;> simp only [mt, h] <;> rfl) rfl fun c X E k h => ?_
  simp only [mt, Syn.ex?] at h
  split at h
  · rename_i q
    cases q
    simp only [Bool.and_eq_true, decide_eq_true_eq] at h
    obtain ⟨v1, v2, v3, v4⟩ := k.vis h.1
    exact ⟨s_fld (by have := k.u; omega) k.fko (k.fk ▸ h.2) v1 v2 v3 v4, rfl, rfl⟩
  · cases h
theorem snd_fcl (i : Nat) : Snd g F fa (.fcl i) := by
  refine Snd.p (fun _ => rfl) (fun _ => rfl) (fun _ => rfl) (exonly_of fun c y => by cases h : y.ex? <;> simp only [mt, h] <;> rfl) rfl fun c X E k h => ?_
  simp only [mt, Syn.ex?] at h
  split at h
  · rename_i q
    cases q
    simp only [Bool.and_eq_true, decide_eq_true_eq] at h
    obtain ⟨v1, v2, v3, v4⟩ := k.vis h.1
    have e := h.2
    rw [k.fk] at e
    subst e
    exact ⟨s_fcl (by have := k.u; omega) v1 v2 v3 v4, rfl, rfl⟩
  · cases h
end
end Pf
/-! PfM: soundness: names, lists of arguments, walks, comprehensions. -/
namespace Pf
open PySem PySem.Spec PyProof.Rows L2
section
variable {g : Gc} {F : Nat → List D → M D} {fa : Option Addr}
theorem zipGo_get : ∀ {ds es : List D} {i : Nat} {d : D}, (zipGo ds es)[i]? = some d → ∃ x y, ds[i]? = some x ∧ es[i]? = some y ∧ d = .tuple [x, y]
  | [], _, _, _, h => by simp [zipGo] at h
  | _ :: _, [], _, _, h => by simp [zipGo] at h
  | x :: ds, y :: es, 0, d, h => ⟨x, y, rfl, rfl, by simpa [zipGo] using h.symm⟩
  | x :: ds, y :: es, i + 1, d, h => by
    obtain ⟨x', y', h1, h2, h3⟩ := zipGo_get (i := i) (by simpa [zipGo] using h)
    exact ⟨x', y', by simpa using h1, by simpa using h2, h3⟩
theorem zipGo_len : ∀ (ds es : List D), (zipGo ds es).length = min ds.length es.length
  | [], es => by simp [zipGo]
  | _ :: _, [] => by simp [zipGo]
  | _ :: ds, _ :: es => by simp only [zipGo, List.length_cons, zipGo_len ds es]; omega
theorem wk_zip {H0 : Hp} {J : It} {xs ys : List V} {ds es : List D} (r1 : RpAll g fa H0 xs ds) (r2 : RpAll g fa H0 ys es)
    (h : ∀ H0' H', Bs g fa H0' H' → (∀ a o, H0 a = some o → H0' a = some o) → ∀ i, (∀ x y, xs[i]? = some x → ys[i]? = some y → J.go i H' ∧ ∀ v H'', J.yld i H' v H'' → ∃ T, v = .ref T ∧ H' T = none ∧ H'' = upd H' T (.tup [x, y])) ∧ (xs.length ≤ i ∨ ys.length ≤ i → J.stop i H')) :
    WkD g fa H0 J (zipGo ds es) := fun i H0' H' b lo => by
  obtain ⟨h1, h2⟩ := h H0' H' b lo i
  refine ⟨fun d e => ?_, fun hl => h2 ?_⟩
  · obtain ⟨x, y, hx, hy, rfl⟩ := zipGo_get e
    obtain ⟨vx, hvx, rx⟩ := r1.get' hx
    obtain ⟨vy, hvy, ry⟩ := r2.get' hy
    obtain ⟨go, yl⟩ := h1 vx vy hvx hvy
    refine ⟨go, fun v H'' hy => ?_⟩
    obtain ⟨T, rfl, hT, rfl⟩ := yl v H'' hy
    have x3 := b.alloc (o := .tup [vx, vy]) hT
    exact ⟨_, x3, .tup (.inl (.inl upd_same)) (.cons (Rp.mono x3.lo (Rp.mono lo rx)) (.one (Rp.mono x3.lo (Rp.mono lo ry))))⟩
  · rw [zipGo_len] at hl
    rw [r1.len, r2.len]
    omega
theorem wk_zipL {H0 : Hp} {a b : Addr} {xs ys : List V} {ds es : List D} (h1 : H0 a = some (.lst xs)) (h2 : H0 b = some (.lst ys)) (r1 : RpAll g fa H0 xs ds) (r2 : RpAll g fa H0 ys es) : WkD g fa H0 (Itz g.K a b) (zipGo ds es) :=
  wk_zip r1 r2 fun H0' H' bs lo i => by
    have ha : SqL g.K H' a xs := .inl (.inl (bs.sub _ _ (lo _ _ h1)))
    have hb : SqL g.K H' b ys := .inl (.inl (bs.sub _ _ (lo _ _ h2)))
    refine ⟨fun x y hx hy => ⟨⟨xs, ys, x, y, ha, hb, hx, hy⟩, fun v H'' hyl => ?_⟩, fun hl => ⟨xs, ys, ha, hb, hl⟩⟩
    obtain ⟨T, x', y', rfl, hT, rfl, f1, f2⟩ := hyl
    have e1 := f1 xs ha
    have e2 := f2 ys hb
    rw [hx] at e1
    rw [hy] at e2
    cases e1
    cases e2
    exact ⟨T, rfl, hT, rfl⟩
theorem wk_zipT {H0 : Hp} {a b : Addr} {xs ys : List V} {ds es : List D} (h1 : SqT g.K H0 a xs) (h2 : SqT g.K H0 b ys) (r1 : RpAll g fa H0 xs ds) (r2 : RpAll g fa H0 ys es) : WkD g fa H0 (RZ.ItzT g.K a b) (zipGo ds es) :=
  wk_zip r1 r2 fun H0' H' bs lo i => by
    have ha : SqT g.K H' a xs := sqT_mono bs.sub (sqT_mono lo h1)
    have hb : SqT g.K H' b ys := sqT_mono bs.sub (sqT_mono lo h2)
    refine ⟨fun x y hx hy => ⟨⟨xs, ys, x, y, ha, hb, hx, hy⟩, fun v H'' hyl => ?_⟩, fun hl => ⟨xs, ys, ha, hb, hl⟩⟩
    obtain ⟨T, x', y', rfl, hT, rfl, f1, f2⟩ := hyl
    have e1 := f1 xs ha
    have e2 := f2 ys hb
    rw [hx] at e1
    rw [hy] at e2
    cases e1
    cases e2
    exact ⟨T, rfl, hT, rfl⟩
theorem w_zip {X : Cx} {E1 E2 : Expr} {f1 f2 : Ev → M D} {elts : List Expr} {kk : Nat} {tpos p pos : Pos} (hK : X.K = g.K) (hg : Gl X "zip") (hm : X.mg "zip" = none) (hs : starEach [E1, E2] X.env = (false, eval E1 X.env) :: starEach [E2] X.env) (hs2 : starEach [E2] X.env = [(false, eval E2 X.env)])
    (h1 : PE X E1 (tG g fa .p f1)) (h2 : PE X E2 (tG g fa .p f2)) : PI X (.Tuple elts kk tpos) (.Call (.Name "zip" p) [E1, E2] [] pos) (tWD g fa fun ρ => ((f1 ρ).bind fun x => (f2 ρ).bind fun y => zipD x y).bind itmD) := by
  have hpl : (backTo pos (starEach [E2] X.env)).any (·.1) = false := by rw [hs2]; rfl
  refine pi_imp (RZ.pi_zipA hg hm (pa_cons h1 (pa_cons h2 pa_nil hs2) hs) hs hpl) fun σ H R ⟨H0, ρ, S, w⟩ => ⟨H0, ρ, S, (WP.bind.mp (WP.bind.mp w)).mono fun d w v H1' H1 x1 r1 => ⟨H1', ρ, S.ext x1, (WP.bind.mp w).mono fun e w u H2' H2 x2 r2 => ?_⟩⟩
  have r1' := Rp.mono x2.lo r1
  cases d with
  | list ds =>
    cases e with
    | list es =>
      obtain ⟨hc, w⟩ := wp_need w
      cases r1' with
      | lst ha ra =>
        cases r2 with
        | lst hb rb =>
          exact ⟨_, _, _, _, rfl, .inl ⟨.inl (.inl (x2.bs.sub _ _ ha)), .inl (.inl (x2.bs.sub _ _ hb)), hK ▸ w (of_decide_eq_true hc) _ H2' H2 (x1.trans x2) (wk_zipL ha hb ra rb)⟩⟩
    | _ => exact w.elim
  | tuple ds =>
    cases e with
    | tuple es =>
      obtain ⟨hc, w⟩ := wp_need w
      cases r1' with
      | tup ha ra =>
        cases r2 with
        | tup hb rb =>
          exact ⟨_, _, _, _, rfl, .inr ⟨hK ▸ sqT_mono x2.bs.sub ha, hK ▸ sqT_mono x2.bs.sub hb, hK ▸ w (of_decide_eq_true hc) _ H2' H2 (x1.trans x2) (wk_zipT ha hb ra rb)⟩⟩
    | _ => exact w.elim
  | _ => exact w.elim

/-- a piece that matches walks alone -/
theorem Snd.walk {e : Sx} (hv : ∀ f, rdv e f = f) (hn : ∀ c y, mt e c y = true → ∃ tg E, y = .i tg E) (hw : ∀ c X tg E, XOk g F c X → mt e c (.i tg E) = true → PI X tg E (tWD g fa fun ρ => (ev F e ρ).bind itmD)) : Snd g F fa e where
  ex := fun c X E o h => by obtain ⟨_, _, q⟩ := hn c _ h; cases q
  fr := fun c X E o h => by obtain ⟨_, _, q⟩ := hn c _ h; cases q
  rd := fun c X E o h => by obtain ⟨_, _, q⟩ := hn c _ h; cases q
  ts := fun c X E o _ h => by obtain ⟨_, _, q⟩ := hn c _ h; cases q
  ar := fun c X E o h => by obtain ⟨_, _, q⟩ := hn c _ h; cases q
  tg := fun c X E o h => by obtain ⟨_, _, q⟩ := hn c _ h; cases q
  tgs := fun c X E o h => by obtain ⟨_, _, q⟩ := hn c _ h; cases q
  it := fun c X tg E o h => ⟨by unfold itmv; rw [hv]; exact w_e (hw c X tg E o h), hw c X tg E o h⟩
  op := fun c X E o h => by obtain ⟨_, _, q⟩ := hn c _ h; cases q
  fs := fun c X E o h => by obtain ⟨_, _, q⟩ := hn c _ h; cases q
  sw := fun c X E x p pos i o h => by obtain ⟨_, _, q⟩ := hn c _ h; cases q
theorem wd_eq {X : Cx} {tg E : Expr} {f f' : Ev → M (List D)} (h : PI X tg E (tWD g fa f)) (e : ∀ ρ Q, WP (f' ρ) Q → WP (f ρ) Q) : PI X tg E (tWD g fa f') := pi_imp h fun σ H R ⟨H0, ρ, S, w⟩ => ⟨H0, ρ, S, e ρ _ w⟩
theorem snd_rng1 {a : Sx} (ha : Snd g F fa a) : Snd g F fa (.rng1 a) := by
  refine Snd.walk (fun _ => rfl) (fun c y h => ?_) fun c X tg E k h => ?_
  · unfold mt at h
    split at h
    · exact ⟨_, _, rfl⟩
    · cases h
  · simp only [mt] at h
    split at h
    · rename_i q
      cases q
      simp only [Bool.and_eq_true, decide_eq_true_eq] at h
      obtain ⟨⟨⟨h1, h2⟩, h3⟩, h4⟩ := h
      subst h1
      obtain ⟨g1, g2, g3, g4⟩ := k.blt h2
      refine wd_eq (w_rng1 g1 g2 (star_of h3) (ha.ex c X _ k h4)) fun ρ Q w => ?_
      refine WP.bind.mpr ((WP.bind.mp (WP.bind.mp w)).mono fun d w => WP.bind.mpr ((WP.bind.mp w).mono fun i w => ?_))
      obtain ⟨hc, w⟩ := wp_need w
      rw [need_of hc]
      exact w
    · cases h
theorem snd_rng2 {a b : Sx} (ha : Snd g F fa a) (hb : Snd g F fa b) : Snd g F fa (.rng2 a b) := by
  refine Snd.walk (fun _ => rfl) (fun c y h => ?_) fun c X tg E k h => ?_
  · unfold mt at h
    split at h
    · exact ⟨_, _, rfl⟩
    · cases h
  · simp only [mt] at h
    split at h
    · rename_i q
      cases q
      simp only [Bool.and_eq_true, decide_eq_true_eq] at h
      obtain ⟨⟨⟨⟨⟨h1, h2⟩, h3⟩, h3'⟩, h4⟩, h5⟩ := h
      subst h1
      obtain ⟨g1, g2, g3, g4⟩ := k.blt h2
      refine wd_eq (w_rng2 g1 g2 (by rw [star_of h3, star_of h3']; rfl) (star_of h3') (ha.ex c X _ k h4) (hb.ex c X _ k h5)) fun ρ Q w => ?_
      refine WP.bind.mpr ((WP.bind.mp (WP.bind.mp w)).mono fun d w => WP.bind.mpr ((WP.bind.mp w).mono fun e w => WP.bind.mpr ((WP.bind.mp w).mono fun i w => WP.bind.mpr ((WP.bind.mp w).mono fun j w => ?_))))
      obtain ⟨hc, w⟩ := wp_need w
      rw [need_of hc]
      exact w
    · cases h
theorem snd_zip {a b : Sx} (ha : Snd g F fa a) (hb : Snd g F fa b) : Snd g F fa (.zip a b) := by
  refine Snd.walk (fun _ => rfl) (fun c y h => ?_) fun c X tg E k h => ?_
  · unfold mt at h
    split at h
    · exact ⟨_, _, rfl⟩
    · cases h
  · simp only [mt] at h
    split at h
    · rename_i q
      cases q
      simp only [Bool.and_eq_true, decide_eq_true_eq] at h
      obtain ⟨⟨⟨⟨⟨⟨h0, h1⟩, h2⟩, h3⟩, h3'⟩, h4⟩, h5⟩ := h
      subst h1
      obtain ⟨g1, g2, g3, g4⟩ := k.blt h2
      cases tg <;> first | (cases h0; done) | skip
      exact w_zip k.K g1 g2 (star_of h3) (star_of h3') (ha.ex c X _ k h4) (hb.ex c X _ k h5)
    · cases h
theorem snd_var (i : Nat) : Snd g F fa (.var i) where
  ex := fun c X E k h => by
    simp only [mt, Syn.ex?] at h
    split at h
    · rename_i q; cases q
      obtain ⟨v1, v2, v3, v4⟩ := k.vis h
      exact s_var v1 v2 v3 v4
    · cases h
  fr := fun c X E k h z => by cases z
  rd := fun c X E k h => by
    simp only [mt, Syn.ex?] at h
    split at h
    · rename_i q; cases q
      obtain ⟨v1, v2, v3, v4⟩ := k.vis h
      exact s_varR v1 v2 v3 v4
    · cases h
  ts := fun c X E k _ h => by
    simp only [mt, Syn.ex?] at h
    split at h
    · rename_i q; cases q
      obtain ⟨v1, v2, v3, v4⟩ := k.vis h
      exact t_truth k.K (true_of rfl) (s_varR v1 v2 v3 v4)
    · cases h
  ar := fun c X es k h => by simp [mt, Syn.ex?] at h
  tg := fun c X E k h => by
    cases E <;> first | (simp [mt, Syn.ex?] at h; done) | skip
    obtain ⟨v1, v2, v3⟩ := k.loc h
    exact g_var k.nd v1 v2 v3
  tgs := fun c X es k h => by simp [mt, Syn.ex?] at h
  it := fun c X tg E k h => by
    simp only [mt, Syn.ex?] at h
    by_cases hs : notSet E = true
    · rw [if_pos hs] at h
      split at h
      · rename_i q; cases q
        obtain ⟨v1, v2, v3, v4⟩ := k.vis h
        exact ⟨w_look k.K (s_varR v1 v2 v3 v4), w_val k.K (s_var v1 v2 v3 v4)⟩
      · cases h
    · rw [if_neg hs] at h
      cases h
  op := fun c X x k h => by
    cases x with
    | none => simp [mt, Syn.ex?] at h
    | some x =>
      simp only [mt, Syn.ex?] at h
      split at h
      · rename_i q; cases q
        obtain ⟨v1, v2, v3, v4⟩ := k.vis h
        exact s_optS (s_var v1 v2 v3 v4)
      · cases h
  fs := fun c X xs k h => by
    cases xs with
    | nil => simp [mt, Syn.ex?] at h
    | cons x r =>
      cases r with
      | nil =>
        simp only [mt, Syn.ex?] at h
        split at h
        · rename_i q; cases q
          obtain ⟨v1, v2, v3, v4⟩ := k.vis h
          exact ⟨fun ps s σ H Q I w => (pts_one (t_truth k.K (true_of rfl) (s_varR v1 v2 v3 v4))).run ps s σ H Q I w⟩
        · cases h
      | cons _ _ => simp [mt, Syn.ex?] at h
  sw := fun c X E x p pos j k h hw => by
    have := swp_comp hw
    simp only [mt, Syn.ex?] at h
    split at h
    · rename_i q; cases q; cases this
    · cases h
end
end Pf
/-! PfN: soundness: displays, targets, comprehensions, the whole of expressions. -/
namespace Pf
open PySem PySem.Spec PyProof.Rows L2
section
variable {g : Gc} {F : Nat → List D → M D} {fa : Option Addr}
theorem tgt_tup (a : Sx) : tgt (.tup a) = fun d ρ => match d with
    | .tuple ds => tgt a (.list ds) ρ
    | _ => .bad := by
  funext d ρ
  cases d <;> rfl
theorem tgt_nil : tgt .nil = fun d ρ => match d with
    | .list [] => .ret ρ
    | _ => .bad := by
  funext d ρ
  cases d with
  | list ds => cases ds <;> rfl
  | _ => rfl
theorem tgt_cons (t a : Sx) : tgt (.cons t a) = fun d ρ => match d with
    | .list (d :: ds) => (tgt t d ρ).bind fun ρ1 => tgt a (.list ds) ρ1
    | _ => .bad := by
  funext d ρ
  cases d with
  | list ds => cases ds <;> rfl
  | _ => rfl
theorem snd_tup {a : Sx} (ha : Snd g F fa a) : Snd g F fa (.tup a) := by
  have key : ∀ c X E, XOk g F c X → mt (.tup a) c (.e E) = true → PE X E (tG g fa .f (ev F (.tup a))) ∧ plainT E = true ∧ notComp E = true := fun c X E k h => by
    simp only [mt, Syn.ex?] at h
    split at h
    · rename_i q
      cases q
      exact ⟨s_tup (ha.ar c X _ k h).1, rfl, rfl⟩
    · cases h
  have hy : ∀ c y E, y.ex? = some E → mt (.tup a) c y = true → mt (.tup a) c (.e E) = true := fun c y E h1 h2 => by
    cases y with
    | t z => cases h1
    | _ => simp only [mt] at h2 ⊢; rw [h1] at h2; exact h2
  exact {
    ex := fun c X E k h => p_of_f (key c X E k h).1
    fr := fun c X E k h z => by cases z
    rd := fun c X E k h => v_of_p (p_of_f (key c X E k h).1)
    ts := fun c X E k _ h => t_truth k.K (true_of (key c X E k h).2.1) (v_of_p (p_of_f (key c X E k h).1))
    ar := fun c X es k h => by simp [mt, Syn.ex?] at h
    tg := fun c X E k h => by
      cases E <;> first | (simp [mt, Syn.ex?] at h; done) | skip
      have h : mt a c (.ts _) = true := h
      obtain ⟨h1, h2⟩ := ha.tgs c X _ k h
      obtain ⟨l1, l2⟩ := asgs_len (env := X.env) (mtT_noStar h)
      rw [tgt_tup]
      exact g_tup k.K k.calm h1 l1 l2 h2
    tgs := fun c X es k h => by simp [mt, Syn.ex?] at h
    it := fun c X tg E k h => by
      have q : ∃ E', (Syn.i tg E).ex? = some E' ∧ E' = E := by
        by_cases hs : notSet E = true
        · exact ⟨E, by simp [Syn.ex?, hs], rfl⟩
        · simp [mt, Syn.ex?, hs] at h
      obtain ⟨E', q, rfl⟩ := q
      have hp := p_of_f (key c X E' k (hy c _ E' q h)).1
      exact ⟨w_e (w_val k.K hp), w_val k.K hp⟩
    op := fun c X x k h => by
      cases x with
      | none => simp [mt, Syn.ex?] at h
      | some x => exact s_optS (p_of_f (key c X x k (hy c (.o (some x)) x rfl h)).1)
    fs := fun c X xs k h => by
      cases xs with
      | nil => simp [mt, Syn.ex?] at h
      | cons x r =>
        cases r with
        | nil =>
          have hk := key c X x k (hy c (.f [x]) x rfl h)
          exact ⟨fun ps s σ H Q I w => (pts_one (t_truth k.K (true_of hk.2.1) (v_of_p (p_of_f hk.1)))).run ps s σ H Q I w⟩
        | cons _ _ => simp [mt, Syn.ex?] at h
    sw := fun c X E x p pos j k h hw => by
      have := swp_comp hw
      rw [(key c X E k h).2.2] at this
      cases this }
theorem snd_nil : Snd g F fa .nil where
  ex := fun c X E k h => by simp [mt] at h
  fr := fun c X E k h => by simp [mt] at h
  rd := fun c X E k h => by simp [mt] at h
  ts := fun c X E k _ h => by simp [mt] at h
  ar := fun c X es k h => by
    cases es with
    | nil =>
      refine ⟨a_nil, fun kws e => ?_, fun ρ Q w => ⟨w, fun ds e => by cases e; rfl⟩⟩
      cases kws with
      | nil => exact k_nil
      | cons _ _ => cases e
    | cons x r => simp [mt] at h
  tg := fun c X E k h => by simp [mt] at h
  tgs := fun c X es k h => by
    cases es with
    | nil =>
      rw [tgt_nil]
      refine ⟨gs_nil, fun ρ ds Q w => ?_⟩
      cases ds with
      | nil => rfl
      | cons _ _ => exact w.elim
    | cons x r => simp [mt] at h
  it := fun c X tg E k h => by simp [mt] at h
  op := fun c X x k h => by simp [mt] at h
  fs := fun c X xs k h => by simp [mt] at h
  sw := fun c X E x p pos j k h => by simp [mt] at h
theorem snd_cons {e a : Sx} (he : Snd g F fa e) (ha : Snd g F fa a) : Snd g F fa (.cons e a) where
  ex := fun c X E k h => by simp [mt] at h
  fr := fun c X E k h => by simp [mt] at h
  rd := fun c X E k h => by simp [mt] at h
  ts := fun c X E k _ h => by simp [mt] at h
  ar := fun c X es k h => by
    cases es with
    | nil => simp [mt] at h
    | cons x r =>
      simp only [mt, Bool.and_eq_true] at h
      obtain ⟨a1, a2, a3⟩ := ha.ar c X r k h.2
      refine ⟨a_cons (star_of h.1.1) (he.ex c X x k h.1.2) a1, fun kws e => ?_, fun ρ Q w => ?_⟩
      · cases kws with
        | nil => cases e
        | cons q kws =>
          obtain ⟨nm, z, kp⟩ := q
          have e : z :: kws.map (·.value) = x :: r := e
          injection e with e1 e2
          subst e1
          exact k_cons (he.ex c X z k h.1.2) (a2 kws e2)
      · have w : WP ((ev F e ρ).bind fun d => (ev F a ρ).bind fun x => (lstD x).bind fun ds => .ret (.list (d :: ds))) Q := w
        show WP ((ev F e ρ).bind fun d => (ev F a ρ).bind fun x => (lstD x).bind fun ds => M.ret (PyData.list (d :: ds))) _
        refine WP.bind.mpr ((WP.bind.mp w).mono fun d w => WP.bind.mpr ((a3 ρ _ (WP.bind.mp w)).mono fun y ⟨w, hl⟩ => ?_))
        cases y with
        | list ds =>
          have w : Q (.list (d :: ds)) := w
          exact ⟨w, fun ds' e => by cases e; rw [List.length_cons, hl ds rfl, List.length_cons]⟩
        | _ => exact w.elim
  tg := fun c X E k h => by simp [mt] at h
  tgs := fun c X es k h => by
    cases es with
    | nil => simp [mt] at h
    | cons x r =>
      simp only [mt, Bool.and_eq_true] at h
      obtain ⟨h1, h2⟩ := ha.tgs c X r k h.2
      rw [tgt_cons]
      refine ⟨gs_cons (he.tg c X x k h.1.2) h1 (by rw [asg_of h.1.1]; rfl), fun ρ ds Q w => ?_⟩
      cases ds with
      | nil => exact w.elim
      | cons d ds =>
        have w : WP ((tgt e d ρ).bind fun ρ1 => tgt a (.list ds) ρ1) Q := w
        have : ∃ ρ1 Q', WP (tgt a (.list ds) ρ1) Q' := by
          have := WP.bind.mp w
          revert this
          generalize tgt e d ρ = m
          intro this
          induction m with
          | ret ρ1 => exact ⟨ρ1, Q, this⟩
          | bad => exact this.elim
          | draw n k ih => exact ih 0 (this.2 0 this.1)
          | any k ih => exact ih 0 (this 0)
        obtain ⟨ρ1, Q', w⟩ := this
        rw [List.length_cons, List.length_cons, h2 _ _ _ w]
  it := fun c X tg E k h => by simp [mt] at h
  op := fun c X x k h => by simp [mt] at h
  fs := fun c X xs k h => by simp [mt] at h
  sw := fun c X E x p pos j k h => by simp [mt] at h
theorem snd_none : Snd g F fa .none_ where
  ex := fun c X E k h => by simp [mt] at h
  fr := fun c X E k h => by simp [mt] at h
  rd := fun c X E k h => by simp [mt] at h
  ts := fun c X E k _ h => by simp [mt] at h
  ar := fun c X es k h => by simp [mt] at h
  tg := fun c X E k h => by simp [mt] at h
  tgs := fun c X es k h => by simp [mt] at h
  it := fun c X tg E k h => by simp [mt] at h
  op := fun c X x k h => by
    cases x with
    | none => exact s_optN
    | some x => simp [mt] at h
  fs := fun c X xs k h => by
    cases xs with
    | nil => exact ts_nil
    | cons x r => simp [mt] at h
  sw := fun c X E x p pos j k h => by simp [mt] at h
/-- a statement is no expression -/
theorem Snd.stmt {e : Sx} (hn : ∀ c y, mt e c y = true → ∃ st, y = .s st) : Snd g F fa e where
  ex := fun c X E o h => by obtain ⟨_, q⟩ := hn c _ h; cases q
  fr := fun c X E o h => by obtain ⟨_, q⟩ := hn c _ h; cases q
  rd := fun c X E o h => by obtain ⟨_, q⟩ := hn c _ h; cases q
  ts := fun c X E o _ h => by obtain ⟨_, q⟩ := hn c _ h; cases q
  ar := fun c X E o h => by obtain ⟨_, q⟩ := hn c _ h; cases q
  tg := fun c X E o h => by obtain ⟨_, q⟩ := hn c _ h; cases q
  tgs := fun c X E o h => by obtain ⟨_, q⟩ := hn c _ h; cases q
  it := fun c X tg E o h => by obtain ⟨_, q⟩ := hn c _ h; cases q
  op := fun c X E o h => by obtain ⟨_, q⟩ := hn c _ h; cases q
  fs := fun c X E o h => by obtain ⟨_, q⟩ := hn c _ h; cases q
  sw := fun c X E x p pos i o h => by obtain ⟨_, q⟩ := hn c _ h; cases q
/-! list(range(n)), tuple(range(n)) -/
theorem rg_all (lo : Int) : ∀ (l : List Nat) {H0 : Hp}, RpAll g fa H0 (l.map fun i : Nat => V.int (lo + i)) (l.map fun i : Nat => PyData.int (lo + i))
  | [], _ => .nil
  | i :: l, _ => .cons (.int _) (rg_all lo l)
theorem s_lrng {X : Cx} {E : Expr} {f : Ev → M D} {p p2 pos pos2 : Pos} (hc : X.calm = true) (hg : Gl X "list") (hm : X.mg "list" = none) (hg2 : Gl X "range") (hm2 : X.mg "range" = none) (hs : starEach [E] X.env = (false, eval E X.env) :: starEach [] X.env) (h : PE X E (tG g fa .p f)) :
    PE X (.Call (.Name "list" p) [.Call (.Name "range" p2) [E] [] pos2] [] pos) (tG g fa .f fun ρ => (f ρ).bind fun x => (intD x).bind fun i => need (decide (-(2 ^ 62) ≤ i ∧ i ≤ 1000000)) (.ret (.list (intR 0 i.toNat)))) :=
  pe_imp (pe_listRg hc hg hm (prg_1 hg2 hm2 h hs) rfl) fun σ H Q ⟨H0, ρ, R, w⟩ => ⟨H0, ρ, R, (WP.bind.mp w).mono fun d w v H1' H1 x1 r1 => by
    obtain ⟨i, ei, w2⟩ := intD_ok (WP.bind.mp w)
    obtain ⟨hc, w3⟩ := wp_need w2
    obtain ⟨c1, c2⟩ := of_decide_eq_true hc
    subst ei
    cases r1
    refine ⟨i, rfl, ⟨by omega, by omega, c1, by omega, by omega⟩, fun q hq => Aft.newL x1.bs (Aft.of_ext R.bs x1 w3) ?_ hq⟩
    unfold rgV intR
    rw [Int.sub_zero]
    exact rg_all 0 _⟩
theorem s_trng {X : Cx} {E : Expr} {f : Ev → M D} {p p2 pos pos2 : Pos} (hc : X.calm = true) (hg : Gl X "tuple") (hm : X.mg "tuple" = none) (hg2 : Gl X "range") (hm2 : X.mg "range" = none) (hs : starEach [E] X.env = (false, eval E X.env) :: starEach [] X.env) (h : PE X E (tG g fa .p f)) :
    PE X (.Call (.Name "tuple" p) [.Call (.Name "range" p2) [E] [] pos2] [] pos) (tG g fa .f fun ρ => (f ρ).bind fun x => (intD x).bind fun i => need (decide (-(2 ^ 62) ≤ i ∧ i ≤ 1000000)) (.ret (.tuple (intR 0 i.toNat)))) :=
  pe_imp (pe_tupRg hc hg hm (prg_1 hg2 hm2 h hs) rfl) fun σ H Q ⟨H0, ρ, R, w⟩ => ⟨H0, ρ, R, (WP.bind.mp w).mono fun d w v H1' H1 x1 r1 => by
    obtain ⟨i, ei, w2⟩ := intD_ok (WP.bind.mp w)
    obtain ⟨hc, w3⟩ := wp_need w2
    obtain ⟨c1, c2⟩ := of_decide_eq_true hc
    subst ei
    cases r1
    refine ⟨i, rfl, ⟨by omega, by omega, c1, by omega, by omega⟩, fun q hq => Aft.newT x1.bs (Aft.of_ext R.bs x1 w3) ?_ hq⟩
    unfold rgV intR
    rw [Int.sub_zero]
    exact rg_all 0 _⟩
theorem snd_lrng {a : Sx} (ha : Snd g F fa a) : Snd g F fa (.lrng a) := by
  refine Snd.f (fun _ => rfl) (fun _ => rfl) (fun _ => rfl) (exonly_of fun c y => by cases h : y.ex? <;> simp only [mt, h] <;> rfl) fun c X E k h => ?_
  simp only [mt, Syn.ex?] at h
  split at h
  · rename_i q
    cases q
    simp only [Bool.and_eq_true, decide_eq_true_eq] at h
    obtain ⟨⟨⟨⟨⟨h1, h2⟩, h3⟩, h4⟩, h5⟩, h6⟩ := h
    subst h1 h3
    obtain ⟨g1, g2, g3, g4⟩ := k.blt h2
    obtain ⟨t1, t2, t3, t4⟩ := k.blt h4
    exact ⟨s_lrng k.calm g1 g2 t1 t2 (star_of h5) (ha.ex c X _ k h6), rfl, rfl⟩
  · cases h
theorem snd_trng {a : Sx} (ha : Snd g F fa a) : Snd g F fa (.trng a) := by
  refine Snd.f (fun _ => rfl) (fun _ => rfl) (fun _ => rfl) (exonly_of fun c y => by cases h : y.ex? <;> simp only [mt, h] <;> rfl) fun c X E k h => ?_
  simp only [mt, Syn.ex?] at h
  split at h
  · rename_i q
    cases q
    simp only [Bool.and_eq_true, decide_eq_true_eq] at h
    obtain ⟨⟨⟨⟨⟨h1, h2⟩, h3⟩, h4⟩, h5⟩, h6⟩ := h
    subst h1 h3
    obtain ⟨g1, g2, g3, g4⟩ := k.blt h2
    obtain ⟨t1, t2, t3, t4⟩ := k.blt h4
    exact ⟨s_trng k.calm g1 g2 t1 t2 (star_of h5) (ha.ex c X _ k h6), rfl, rfl⟩
  · cases h
/-! comprehensions -/
theorem ownL_map (c : Sc) : ∀ own : List Nat, (c.ownL own).map (·.2) = own
  | [] => rfl
  | i :: own => by
    show i :: (c.ownL own).map (·.2) = i :: own
    rw [ownL_map c own]
theorem snd_lc {own : List Nat} {tg it cd elt : Sx} (htg : Snd g F fa tg) (hit : Snd g F fa it) (hcd : Snd g F fa cd) (hel : Snd g F fa elt) : Snd g F fa (.lc own tg it cd elt) := by
  have key : ∀ c X E, XOk g F c X → mt (.lc own tg it cd elt) c (.e E) = true → PE X E (tG g fa .f (ev F (.lc own tg it cd elt))) ∧ plainT E = true ∧
      ∀ x p pos i, c.swp (.Name x p) E = true → X.N[i]? = some x → ∃ t, PS X (.Assign [.Name x p] E pos) (tAsg t (gName i)) ∧ ∀ σ H Q, tG g fa .f (ev F (.lc own tg it cd elt)) σ H Q → t σ H Q := fun c X E k h => by
    simp only [mt, Syn.ex?] at h
    split at h
    · rename_i q
      cases q
      simp only [Bool.and_eq_true, List.all_eq_true] at h
      obtain ⟨⟨⟨⟨⟨⟨h1, h2⟩, h3⟩, h4⟩, h5⟩, h6⟩, h7⟩ := h
      have hb := blkOk_by h1
      rw [← k.N, ← k.sc] at hb
      have hts : ∀ i ∈ slotsOf tg, i ∈ (c.ownL own).map (·.2) := fun i hi => by
        rw [ownL_map]
        have := h2 i hi
        simpa using this
      have i1 := (hit.it c X _ _ k h4).1
      have hg := fun s H C cl fp => htg.tg _ _ _ (k.blk hb.kind s H C cl fp) h5
      have ht := fun s H C cl fp => hcd.fs _ _ _ (k.blk hb.kind s H C cl fp) h6
      have he := fun s H C cl fp => hel.ex _ _ _ (k.blk hb.kind s H C cl fp) h7
      refine ⟨?_, rfl, fun x p pos i hw hi => ?_⟩
      · have := s_lc (pos := by assumption) k.calm k.nd i1 hb hg ht he (fold_of h3) hts
        rw [ownL_map] at this
        exact this
      · simp only [Sc.swp, Bool.and_eq_true, decide_eq_true_eq, Bool.not_eq_true'] at hw
        obtain ⟨⟨w1, w2⟩, w3⟩ := hw
        have hy : X.env.scope.names.lookup x = some .local := by rw [k.sc]; exact w1
        have hk : X.env.scope.kind = .function := by rw [k.sc]; exact k.kd
        refine ⟨_, ps_setLc k.calm k.nd hi hy (sw_true hk hy w2 w3) i1 hb hg ht he (fold_of h3), fun σ H Q w => ?_⟩
        rw [ownL_map]
        exact lc_imp (fun i hi => by have := hts i hi; rw [ownL_map] at this; exact this) w
    · cases h
  exact Snd.mk' (fun _ => rfl) (fun _ => rfl) (fun _ => rfl) (exonly_of fun c y => by cases h : y.ex? <;> simp only [mt, h] <;> rfl).1 (fun c X E k h => p_of_f (key c X E k h).1) (fun c X E k h _ => (key c X E k h).1) (exonly_of fun c y => by cases h : y.ex? <;> simp only [mt, h] <;> rfl).2
    (fun c X E k h => t_truth k.K (true_of (key c X E k h).2.1) (v_of_p (p_of_f (key c X E k h).1))) fun c X E x p pos i k h => (key c X E k h).2.2 x p pos i
end
end Pf
/-! PfR: x[::-1] of a list or a tuple; xs[i::3] of a list. -/
namespace Pf
open PySem PySem.Spec PyProof.Rows L2
section
variable {prog : Program} {w : World} {A : Around} {E : Value → Shared → Prop} {s : Shared}
theorem filterMap_some {α β : Type} {f : α → Option β} {h : α → β} : ∀ {l : List α}, (∀ k ∈ l, f k = some (h k)) → l.filterMap f = l.map h
  | [], _ => rfl
  | a :: l, q => by
    rw [List.filterMap_cons, q a List.mem_cons_self, List.map_cons, filterMap_some fun k hk => q k (List.mem_cons_of_mem _ hk)]
theorem rev_pick (xs : Array Value) : ((List.range xs.size).filterMap fun (k : Nat) => xs[(((xs.size : Int) - 1) + (k : Int) * (-1)).toNat]?).toArray = xs.toList.reverse.toArray := by
  congr 1
  apply List.ext_getElem?
  intro i
  have e : (List.range xs.size).filterMap (fun (k : Nat) => xs[(((xs.size : Int) - 1) + (k : Int) * (-1)).toNat]?) = (List.range xs.size).map (fun k => xs.toList.reverse[k]?.getD .none) := by
    apply filterMap_some
    intro k hk
    have hk := List.mem_range.mp hk
    have h1 : (((xs.size : Int) - 1) + (k : Int) * (-1)).toNat = xs.size - 1 - k := by omega
    have h2 : xs.toList.reverse[k]? = xs[xs.size - 1 - k]? := by
      rw [List.getElem?_reverse (by simpa using hk)]
      simp
    rw [h1]
    show _ = some (xs.toList.reverse[k]?.getD .none)
    rw [h2]
    have : xs.size - 1 - k < xs.size := by omega
    rw [Array.getElem?_eq_getElem this]
    rfl
  rw [e, List.getElem?_map]
  by_cases hi : i < xs.size
  · rw [List.getElem?_range hi]
    have : i < xs.toList.reverse.length := by simpa using hi
    show some (xs.toList.reverse[i]?.getD Value.none) = _
    rw [List.getElem?_eq_getElem this]
    rfl
  · rw [List.getElem?_eq_none (by rw [List.length_range]; omega), List.getElem?_eq_none (by simp; omega)]
    rfl
theorem getItem_tuple_rev {t sl : Addr} {items : Array Value} {tk : Tok} {Q : Value → Shared → Prop} (ht : IsTup s.heap t items) (hs : s.heap.IsSliceOf sl .none .none (.int (-1) tk))
    (h : Q (.ref s.heap.objs.size) { s with heap := s.heap.push { cls := .type "tuple", data := .seq items.toList.reverse.toArray } }) (hsz : items.size ≤ sizeLine) : wpAny (model prog w) A (getItem (.ref t) (.ref sl)) Q E s := by
  have hfit : sizeOk (.seq items.toList.reverse.toArray) := by
    show items.toList.reverse.toArray.size ≤ sizeLine
    rw [List.size_toArray, List.length_reverse, Array.length_toList]
    exact hsz
  obtain ⟨os, hos, hcs, hds⟩ := id hs
  have hTs : s.TypeIs (.ref sl) "slice" := ⟨os, hos, hcs⟩
  unfold getItem
  try with_reducible refine wpAny_holding ?_
  first | refine wpAny_bind (wpAny_pure ?_) | skip
  refine wpAny_bind (wpAny_sequenceKey ht.typeIs (by decide) ?_)
  refine wpAny_bind (wpAny_callSpecial?_slot (name := Str.ofString "__getitem__") ht.typeIs PyProof.Rows.slot_tuple_getitem
    (wpAny_call_entry PyProof.Rows.slot_tuple_getitem ht.typeIs entry_tuple_getitem ?_ (args_tuple_getitem _ _)))
  show wpAny _ _ (Builtin.Tuple.tupleItemsOf (.ref t) >>= _) _ _ s
  refine wpAny_bind (tupleItemsOf_ ht ?_)
  refine wpAny_bind (wpAny_typeOf hTs ?_)
  rw [if_pos (by decide)]
  have app : ∀ {R : Int × Int × Nat → Shared → Prop}, R ((items.size : Int) - 1, -1, items.size) s → wpAny (model prog w) (A.in1) (Builtin.Slice.sliceApplied (.ref sl) (pure (items.size : Int))) R E s := fun {R} hR => by
    unfold Builtin.Slice.sliceApplied Builtin.Slice.sliceFields
    refine wpAny_bind (wpAny_bind (wpAny_field hos hds (x := .none) rfl (wpAny_bind (wpAny_field hos hds (x := .none) rfl (wpAny_bind (wpAny_field hos hds (x := .int (-1) tk) rfl (wpAny_pure ?_)))))))
    refine wpAny_bind (slicePart_int ?_)
    show wpAny _ _ (if ((-1 : Int) == 0) = true then _ else _) _ _ s
    rw [if_neg (by decide)]
    refine wpAny_bind (slicePart_none (wpAny_bind (slicePart_none (wpAny_bind (wpAny_pure ?_)))))
    refine wpAny_pure ?_
    have e : Builtin.Slice.slicePlaces ((items.size : Int) - 1) (-1) (-1) = items.size := by
      unfold Builtin.Slice.slicePlaces
      simp only [show ¬ ((-1 : Int) > 0) by omega, if_false, show (- -1 : Int) = 1 by decide, Int.ediv_one]
      split <;> omega
    show R ((items.size : Int) - 1, -1, Builtin.Slice.slicePlaces ((items.size : Int) - 1) (-1) (-1)) s
    rw [e]
    exact hR
  refine wpAny_bind (app ?_)
  have hno : ¬ ((((items.size : Int) - 1) == 0 && (-1 : Int) == 1 && items.size == items.size) = true) := by
    intro q
    rw [Bool.and_eq_true, Bool.and_eq_true] at q
    have q1 : (-1 : Int) = 1 := eq_of_beq q.1.2
    omega
  show wpAny _ _ (if (((items.size : Int) - 1) == 0 && (-1 : Int) == 1 && items.size == items.size) = true then _ else _) _ _ s
  rw [if_neg hno, rev_pick]
  first
    | exact wpAny_bind (m := Builtin.Tuple.tupleExact _) (wpAny_newObj_type (wpAny_pure ⟨_, rfl, wpAny_pure h⟩) hfit)
    | exact wpAny_bind (m := Builtin.Tuple.tupleExact _) (wpAny_newObj_type (wpAny_bind (wpAny_pure (wpAny_pure ⟨_, rfl, wpAny_pure h⟩))) hfit)
    | exact wpAny_bind (wpAny_bind (m := Builtin.Tuple.tupleExact _) (wpAny_newObj_type (wpAny_pure (wpAny_pure ⟨_, rfl, wpAny_pure h⟩)) hfit))
    | exact wpAny_bind (wpAny_bind (m := Builtin.Tuple.tupleExact _) (wpAny_newObj_type (wpAny_pure ⟨_, rfl, wpAny_pure h⟩) hfit))
end
section
variable {X : Cx} {g : Gc} {fa : Option Addr} {F : Nat → List D → M D}
theorem Vals.rev {xs : List V} {us : List Value} (r : Vals xs us) : Vals xs.reverse us.reverse := r.reverse
theorem s_rev {E : Expr} {f : Ev → M D} {k : Nat} {p1 p2 p3 pos : Pos} (hK : X.K = g.K) (he : PE X E (tG g fa .v f)) :
    PE X (.Subscript E (.Slice none none (some (.UnaryOp .USub (.Constant (.int 1) k p1) p2)) p3) pos) (tG g fa .f fun ρ => (f ρ).bind fun x => match x with
    | .list ds => .ret (.list ds.reverse)
    | .tuple ds => .ret (.tuple ds.reverse)
    | _ => .bad) := by
  refine ⟨fun ps s σ H Q I ⟨H0, ρ, R, w0⟩ => ?_⟩
  refine Subscript_ (thn (he.run ps s σ H (fun v H1 => ∃ H1' d, Ext g fa H0 H H1' H1 ∧ Rv g fa H1' H1 v d ∧ WP (match d with
    | .list ds => M.ret (PyData.list ds.reverse)
    | .tuple ds => .ret (.tuple ds.reverse)
    | _ => .bad) (Aft g fa H1' H1 Q)) I ⟨H0, ρ, R, (WP.bind.mp w0).mono fun d w v H1' H1 x1 r1 => ⟨H1', d, x1, r1, w.mono fun z q => Aft.of_ext R.bs x1 q⟩⟩) fun v s1 ⟨x, H1, I1, r1, H1', d, x1, rv, q⟩ => ?_)
  have hst : PO X (some (.UnaryOp .USub (.Constant (.int 1) k p1) p2)) (tPart (tUn (rU fun i => .int (-i)) (tC (.int 1)))) := po_some (pe_un un_neg pe_int)
  refine wpAny_Slice (thn (po_none.run ps s1 σ H1 (fun o H2 => o = none ∧ H2 = H1) I1 ⟨rfl, rfl⟩) fun vl s2 ⟨l, H2, I2, pl, el, e2⟩ => ?_)
  subst el e2
  refine thn (po_none.run ps s2 σ H2 (fun o H3 => o = none ∧ H3 = H2) I2 ⟨rfl, rfl⟩) fun vu s3 ⟨u, H3, I3, pu, eu, e3⟩ => ?_
  subst eu e3
  refine thn (hst.run ps s3 σ H3 (fun o H4 => o = some (-1) ∧ H4 = H3) I3 ⟨1, rfl, -1, rfl, rfl, rfl⟩) fun vs s4 ⟨o, H4, I4, pst, eo, e4⟩ => ?_
  subst eo e4
  have I5 : Inv X ps σ H4 { s4 with heap := s4.heap.push { cls := .type "slice", data := .fields #[vl, vu, vs] } } := I4.kept (t' := s4.toks) fun b ob q => Heap.get?_push_of_some _ q
  cases d with
  | list ds =>
    obtain ⟨a, xs, rfl, ha, ra⟩ := rv.list x1.bs
    cases r1
    obtain ⟨its, r, ht, hz⟩ := I5.list (a := a) (xs := xs) (.inl (.inl ha))
    have hlen := r.length
    show wpAny (model X.prog X.w) X.A (subscriptTail E (.Slice none none (some (.UnaryOp .USub (.Constant (.int 1) k p1) p2)) p3) (.ref a) (.ref s4.heap.objs.size)) (EP X ps σ Q) X.xe { s4 with heap := s4.heap.push { cls := .type "slice", data := .fields #[vl, vu, vs] } }
    refine tail_any (ops := [.ref a, .ref s4.heap.objs.size]) ht.isList.typeIs (PySem.slot_list_getitem.lookup) ?_ (by with_unfolding_all rfl)
    refine wpAny_getItem_list_slice ht.isList (Heap.IsSliceOf.new _ vl vu vs) pl pu pst (by decide) ?_ (by rw [List.size_toArray]; omega)
    rw [PySem.W.krv_pick]
    refine ⟨.ref _, _, I5.laid (t' := s4.toks) (o := .lst xs.reverse) (fun b ob q => Heap.get?_push_of_some _ q) (Nat.le_refl _) ?_, rfl, Aft.newL x1.bs q ra.reverse (I5.hok.fresh (Nat.le_refl _))⟩
    exact ⟨by rw [List.length_reverse]; exact hz, _, 0, r.reverse, Heap.get?_push_size _ rfl⟩
  | tuple ds =>
    obtain ⟨a, xs, rfl, ha, ra⟩ := rv.tuple x1.bs
    cases r1
    obtain ⟨its, r, ht, hz⟩ := I5.tuple (a := a) (xs := xs) (hK ▸ ha)
    have hlen := r.length
    show wpAny (model X.prog X.w) X.A (subscriptTail E (.Slice none none (some (.UnaryOp .USub (.Constant (.int 1) k p1) p2)) p3) (.ref a) (.ref s4.heap.objs.size)) (EP X ps σ Q) X.xe { s4 with heap := s4.heap.push { cls := .type "slice", data := .fields #[vl, vu, vs] } }
    refine tail_any (ops := [.ref a, .ref s4.heap.objs.size]) ht.typeIs (PyProof.Rows.slot_tuple_getitem.lookup) ?_ (by with_unfolding_all rfl)
    cases pl
    cases pu
    cases pst
    refine getItem_tuple_rev ht (Heap.IsSliceOf.new _ _ _ _) ?_ (by rw [List.size_toArray]; omega)
    refine ⟨.ref _, _, I5.laid (t' := s4.toks) (o := .tup xs.reverse) (fun b ob q => Heap.get?_push_of_some _ q) (Nat.le_refl _) ?_, rfl, Aft.newT x1.bs q ra.reverse (I5.hok.fresh (Nat.le_refl _))⟩
    exact ⟨by rw [List.length_reverse]; exact hz, _, r.reverse, ⟨_, Heap.get?_push_size _ rfl, rfl, _, rfl⟩⟩
  | _ => exact q.elim
theorem snd_rev {a : Sx} (ha : Snd g F fa a) : Snd g F fa (.rev a) := by
  refine Snd.f (fun _ => rfl) (fun _ => rfl) (fun _ => rfl) (exonly_of fun c y => by cases h : y.ex? <;> simp only [mt, h] <;> rfl) fun c X E k h => ?_
  simp only [mt, Syn.ex?] at h
  split at h
  · rename_i q
    cases q
    exact ⟨s_rev k.K (ha.rd c X _ k h), rfl, rfl⟩
  · cases h
theorem RpAll.pick {H0 : Hp} {xs : List V} {ds : List D} (r : RpAll g fa H0 xs ds) : ∀ l : List Nat, RpAll g fa H0 (l.filterMap (xs[·]?)) (l.filterMap (ds[·]?))
  | [] => .nil
  | k :: l => by
    rw [List.filterMap_cons, List.filterMap_cons]
    cases e : ds[k]? with
    | none =>
      have : xs[k]? = none := by
        rw [List.getElem?_eq_none_iff] at e ⊢
        rw [r.len]; exact e
      rw [this]
      exact RpAll.pick r l
    | some d =>
      obtain ⟨v, hv, rv⟩ := r.get' e
      rw [hv]
      exact .cons rv (RpAll.pick r l)
theorem vals_pick {xs : List V} {us : List Value} (r : Vals xs us) : ∀ l : List Nat, Vals (l.filterMap (xs[·]?)) (l.filterMap (us[·]?))
  | [] => .nil
  | k :: l => by
    rw [List.filterMap_cons, List.filterMap_cons]
    cases e : xs[k]? with
    | none => rw [r.none_of e]; exact vals_pick r l
    | some d =>
      obtain ⟨u, hu, ru⟩ := r.get e
      rw [hu]
      exact .cons ru (vals_pick r l)
theorem s_step {E E2 : Expr} {f f2 : Ev → M D} {n k : Nat} {p1 p3 pos : Pos} (hK : X.K = g.K) (he : PE X E (tG g fa .v f)) (hl : PE X E2 (tG g fa .p f2)) :
    PE X (.Subscript E (.Slice (some E2) none (some (.Constant (.int (n : Int)) k p1)) p3) pos) (tG g fa .f fun ρ => (f ρ).bind fun x => (f2 ρ).bind fun y => match x, y with
    | .list ds, .int i => need (decide (n ≠ 0 ∧ (stepD ds i n).length ≤ sizeLine)) (.ret (.list (stepD ds i n)))
    | _, _ => .bad) := by
  refine ⟨fun ps s σ H Q I ⟨H0, ρ, R, w0⟩ => ?_⟩
  refine Subscript_ (thn (he.run ps s σ H (fun v H1 => ∃ H1' d, Ext g fa H0 H H1' H1 ∧ Rv g fa H1' H1 v d ∧ WP ((f2 ρ).bind fun y => match d, y with
    | .list ds, .int i => need (decide (n ≠ 0 ∧ (stepD ds i n).length ≤ sizeLine)) (M.ret (PyData.list (stepD ds i n)))
    | _, _ => .bad) (Aft g fa H1' H1 Q)) I ⟨H0, ρ, R, (WP.bind.mp w0).mono fun d w v H1' H1 x1 r1 => ⟨H1', d, x1, r1, w.mono fun z q => Aft.of_ext R.bs x1 q⟩⟩) fun v s1 ⟨x, H1, I1, r1, H1', d, x1, rv, q⟩ => ?_)
  have hlo : PO X (some E2) (tOpt g fa fun ρ => (f2 ρ).bind fun d => (intD d).bind fun i => .ret (some i)) := s_optS hl
  have hst : PO X (some (.Constant (.int (n : Int)) k p1)) (tPart (tC (.int (n : Int)))) := po_some pe_int
  refine wpAny_Slice (thn ((po_some hl).run ps s1 σ H1 (fun o H2 => ∃ i H2', o = some i ∧ Ext g fa H1' H1 H2' H2 ∧ ∃ ds, d = .list ds ∧ n ≠ 0 ∧ (stepD ds i n).length ≤ sizeLine ∧ Aft g fa H2' H2 Q (.list (stepD ds i n))) I1 ⟨H1', ρ, R.ext x1, (WP.bind.mp q).mono fun y w vy H2' H2 x2 r2 => ?_⟩) fun vl s2 ⟨l, H2, I2, pl, i, H2', el, x2, ds, ed, hn, hz2, q2⟩ => ?_)
  · cases d with
    | list ds =>
      cases y with
      | int i =>
        obtain ⟨hc, w⟩ := wp_need w
        obtain ⟨c1, c2⟩ := of_decide_eq_true hc
        cases r2
        exact ⟨i, rfl, i, H2', rfl, x2, ds, rfl, c1, c2, Aft.of_ext x1.bs x2 w⟩
      | _ => exact w.elim
    | _ => exact w.elim
  subst el ed
  refine thn (po_none.run ps s2 σ H2 (fun o H3 => o = none ∧ H3 = H2) I2 ⟨rfl, rfl⟩) fun vu s3 ⟨u, H3, I3, pu, eu, e3⟩ => ?_
  subst eu e3
  refine thn (hst.run ps s3 σ H3 (fun o H4 => o = some (n : Int) ∧ H4 = H3) I3 ⟨n, rfl, rfl, rfl⟩) fun vs s4 ⟨o, H4, I4, pst, eo, e4⟩ => ?_
  subst eo e4
  have I5 : Inv X ps σ H4 { s4 with heap := s4.heap.push { cls := .type "slice", data := .fields #[vl, vu, vs] } } := I4.kept (t' := s4.toks) fun b ob q => Heap.get?_push_of_some _ q
  obtain ⟨a, xs, rfl, ha, ra⟩ := (Rv.ext rv x1.bs x2).list x2.bs
  cases r1
  obtain ⟨its, r, ht, hz⟩ := I5.list (a := a) (xs := xs) (.inl (.inl ha))
  have hlen := r.length
  show wpAny (model X.prog X.w) X.A (subscriptTail E (.Slice (some E2) none (some (.Constant (.int (n : Int)) k p1)) p3) (.ref a) (.ref s4.heap.objs.size)) (EP X ps σ Q) X.xe { s4 with heap := s4.heap.push { cls := .type "slice", data := .fields #[vl, vu, vs] } }
  refine tail_any (ops := [.ref a, .ref s4.heap.objs.size]) ht.isList.typeIs (PySem.slot_list_getitem.lookup) ?_ (by with_unfolding_all rfl)
  refine wpAny_getItem_list_slice ht.isList (Heap.IsSliceOf.new _ vl vu vs) pl pu pst (by intro z; exact hn (by have := Option.some.inj z; omega)) ?_ (by rw [List.size_toArray]; omega)
  have hrl := ra.len
  have e1 : slicePick its.toArray (some i) none (some (n : Int)) = ((sliceRange (sliceBounds (some i) none (some (n : Int)) ds.length).1 (sliceBounds (some i) none (some (n : Int)) ds.length).2.1 (sliceBounds (some i) none (some (n : Int)) ds.length).2.2).filterMap (its[·]?)).toArray := by
    unfold slicePick
    rw [List.size_toArray, ← hlen, hrl]
    simp
  rw [e1]
  refine ⟨.ref _, _, I5.laid (t' := s4.toks) (o := .lst ((sliceRange (sliceBounds (some i) none (some (n : Int)) ds.length).1 (sliceBounds (some i) none (some (n : Int)) ds.length).2.1 (sliceBounds (some i) none (some (n : Int)) ds.length).2.2).filterMap (xs[·]?))) (fun b ob q => Heap.get?_push_of_some _ q) (Nat.le_refl _) ?_, rfl, Aft.newL x2.bs q2 (ra.pick _) (I5.hok.fresh (Nat.le_refl _))⟩
  refine ⟨?_, _, 0, vals_pick r _, Heap.get?_push_size _ rfl⟩
  rw [(ra.pick _).len]
  exact hz2
theorem snd_step {a lo : Sx} (n : Nat) (ha : Snd g F fa a) (hl : Snd g F fa lo) : Snd g F fa (.step a lo n) := by
  refine Snd.f (fun _ => rfl) (fun _ => rfl) (fun _ => rfl) (exonly_of fun c y => by cases h : y.ex? <;> simp only [mt, h] <;> rfl) fun c X E k h => ?_
  simp only [mt, Syn.ex?] at h
  split at h
  · rename_i q
    cases q
    simp only [Bool.and_eq_true, decide_eq_true_eq] at h
    obtain ⟨⟨h1, h2⟩, h3⟩ := h
    subst h1
    exact ⟨s_step k.K (ha.rd c X _ k h2) (hl.ex c X _ k h3), rfl, rfl⟩
  · cases h
end
end Pf
/-! PfO: soundness, whole. -/
namespace Pf
open PySem PySem.Spec PyProof.Rows L2
section
variable {g : Gc} {F : Nat → List D → M D} {fa : Option Addr}
theorem snd (e : Sx) : Snd g F fa e := by
  induction e with
  | var i => exact snd_var i
  | cst d => exact snd_cst d
  | glob x d => exact snd_glob x d
  | fref x k => exact snd_fref x k
  | tup a ha => exact snd_tup ha
  | lst a ha => exact snd_lst ha
  | nil => exact snd_nil
  | cons e a he ha => exact snd_cons he ha
  | call k a ha => exact snd_call k ha
  | callk k p a ha => exact snd_callk k p ha
  | fld i q => exact snd_fld i q
  | fcl i => exact snd_fcl i
  | callv i a ha => exact snd_callv i ha
  | bi b a ha => exact snd_bi b ha
  | biIf b k a d hk ha hd => exact snd_biIf b hk ha hd
  | isi e t he => exact snd_isi t he
  | upper e he => exact snd_upper he
  | bin o a b ha hb => exact snd_bin o ha hb
  | cmp o a b ha hb => exact snd_cmp o ha hb
  | chain o o' a b c ha hb hc => exact snd_chain o o' ha hb hc
  | neg a ha => exact snd_neg ha
  | nt a ha => exact snd_nt ha
  | and a b ha hb => exact snd_and ha hb
  | or a b ha hb => exact snd_or ha hb
  | ifx c a b hc ha hb => exact snd_ifx hc ha hb
  | idx a b ha hb => exact snd_idx ha hb
  | sl a lo hi ha hl hh => exact snd_sl ha hl hh
  | rev a ha => exact snd_rev ha
  | step a lo n ha hl => exact snd_step n ha hl
  | none_ => exact snd_none
  | lc own tg it cd elt h1 h2 h3 h4 => exact snd_lc h1 h2 h3 h4
  | rng1 a ha => exact snd_rng1 ha
  | rng2 a b ha hb => exact snd_rng2 ha hb
  | zip a b ha hb => exact snd_zip ha hb
  | lrng a ha => exact snd_lrng ha
  | trng a ha => exact snd_trng ha
  | _ =>
    refine Snd.stmt fun c y h => ?_
    unfold mt at h
    first
      | (cases h; done)
      | (split at h <;> first | exact ⟨_, rfl⟩ | (cases h; done))

theorem tgt_ne {c : Sc} {tg E : Expr} (h : c.stOk tg E = true) : notStar tg = true := by
  unfold Sc.stOk at h
  rw [Bool.and_eq_true] at h
  exact h.1
/-- a plain store's side conditions -/
theorem st_ok {c : Sc} {X : Cx} (k : XOk g F c X) {tg E : Expr} {pos : Pos} (h : c.stOk tg E = true) (hs : c.swp tg E = false) : swapsWithSole [tg] E pos.line X.env = pure false ∧ swappedStores [tg] E X.env = pure none ∧ List.map (fun x => x.snd) (assignEach [tg] X.env) = [assign tg X.env] := by
  refine ⟨?_, ?_, by rw [asg_of (tgt_ne h)]; rfl⟩
  · show swapsWith E (some tg) pos.line X.env = pure false
    by_cases hc : notComp E = true
    · exact swapS_of hc
    · unfold Sc.stOk at h
      rw [Bool.and_eq_true] at h
      cases tg <;> first
        | (cases E <;> first | (exact absurd rfl hc) | (cases h.2; done) | rfl | skip)
      rename_i x p elt gs scope pos2
      show (pure (X.env.blockKind == .function && X.env.kindOf x == some .local && p.line == _ && !(scope.names.any fun (n, k) => n == x && (k == .local || k == .cell))) : Sem Bool) = pure false
      congr 1
      simp only [Sc.swp] at hs
      have hk : X.env.kindOf x = c.sc.names.lookup x := by unfold Env.kindOf; rw [k.sc]
      rw [hk]
      cases h1 : decide (c.sc.names.lookup x = some .local) with
      | false =>
        have : (c.sc.names.lookup x == some .local) = false := by
          rw [beq_eq_false_iff_ne]
          exact of_decide_eq_false h1
        rw [this]
        simp
      | true =>
        rw [h1, Bool.true_and] at hs
        rw [Bool.and_assoc, hs, Bool.and_false]
  · unfold Sc.stOk at h
    rw [Bool.and_eq_true] at h
    cases tg <;> first
      | rfl
      | (cases E <;> first | rfl | (cases h.2; done))
theorem swp_name {c : Sc} {tg E : Expr} (h : c.swp tg E = true) : ∃ x p, tg = .Name x p ∧ notComp E = false := by
  unfold Sc.swp at h
  split at h
  · exact ⟨_, _, rfl, rfl⟩
  · cases h
/-- statements and blocks -/
structure Std (g : Gc) (F : Nat → List D → M D) (fa : Option Addr) (fu : Nat) (e : Sx) : Prop where
  st : ∀ H0s Hs Z c X s, XOk g F c X → mt e c (.s s) = true → PS X s (tS g fa H0s Hs Z (exGo fu F e))
  bl : ∀ H0s Hs Z c X s, XOk g F c X → mt e c (.b s) = true → PSs X s (tS g fa H0s Hs Z (exGo fu F e))
variable {fu : Nat}
theorem Std.no {e : Sx} (h1 : ∀ c s, mt e c (.s s) = true → False) (h2 : ∀ c s, mt e c (.b s) = true → False) : Std g F fa fu e := ⟨fun _ _ _ c _ s _ h => (h1 c s h).elim, fun _ _ _ c _ s _ h => (h2 c s h).elim⟩
theorem Std.s {e : Sx} (h1 : ∀ H0s Hs Z c X s, XOk g F c X → mt e c (.s s) = true → PS X s (tS g fa H0s Hs Z (exGo fu F e))) (h2 : ∀ c s, mt e c (.b s) = true → False) : Std g F fa fu e := ⟨h1, fun _ _ _ c _ s _ h => (h2 c s h).elim⟩
theorem ts_eq {X : Cx} {st : Stmt} {H0s Hs Z : Hp} {f f' : Ev → M Out} (h : PS X st (tS g fa H0s Hs Z f)) (e : ∀ ρ Q, WP (f' ρ) Q → WP (f ρ) Q) : PS X st (tS g fa H0s Hs Z f') := ps_imp h fun D σ H ⟨H0, ρ, R, en, w⟩ => ⟨H0, ρ, R, en, e ρ _ w⟩
theorem tss_eq {X : Cx} {st : List Stmt} {H0s Hs Z : Hp} {f f' : Ev → M Out} (h : PSs X st (tS g fa H0s Hs Z f)) (e : ∀ ρ Q, WP (f' ρ) Q → WP (f ρ) Q) : PSs X st (tS g fa H0s Hs Z f') := pss_imp h fun D σ H ⟨H0, ρ, R, en, w⟩ => ⟨H0, ρ, R, en, e ρ _ w⟩
theorem std_asg (tg e : Sx) : Std g F fa fu (.asg tg e) := Std.s (fun H0s Hs Z c X s k h => by
  unfold mt at h
  split at h
  · rename_i q
    cases q
    rename_i t v pos
    simp only [Bool.and_eq_true] at h
    obtain ⟨⟨h1, h2⟩, h3⟩ := h
    cases hs : c.swp t v with
    | false =>
      obtain ⟨s1, s2, s3⟩ := st_ok k (pos := pos) h1 hs
      exact x_asg s1 s2 s3 ((snd e).ex c X v k h3) ((snd tg).tg c X t k h2)
    | true =>
      obtain ⟨x, p, rfl, _⟩ := swp_name hs
      -- the target is a name: tg is a slot
      cases tg <;> first | (simp [mt, Syn.ex?] at h2; done) | skip
      rename_i i
      have h2 : c.loc i x = true := h2
      obtain ⟨v1, v2, v3⟩ := k.loc h2
      obtain ⟨t, ht, hi⟩ := (snd (g := g) (F := F) (fa := fa) e).sw c X v x p pos i k h3 hs v1
      refine ps_imp ht fun D σ H ⟨H0, ρ, R, en, w⟩ => hi σ H _ ⟨H0, ρ, R, (WP.bind.mp w).mono fun d w v H1' H1 x1 r1 => ?_⟩
      obtain ⟨H0'', x2, lo, r2⟩ := Rel.data (Hs := H) x1 r1
      exact w _ H0'' H1 ((R.ext x2).putD i r2) ((en.ext x2).kp (Kp.put fun _ z => by cases z))
  · cases h) (fun c s h => by simp [mt] at h)
theorem std_asgO (i : Nat) (e : Sx) : Std g F fa fu (.asgO i e) := Std.s (fun H0s Hs Z c X s k h => by
  unfold mt at h
  split at h
  · rename_i q
    cases q
    rename_i x p v pos
    simp only [Bool.and_eq_true] at h
    obtain ⟨⟨⟨h1, h2⟩, hf⟩, h3⟩ := h
    obtain ⟨v1, v2, v3⟩ := k.loc h2
    have weak : ∀ ρ Q, WP (exGo fu F (.asgO i e) ρ) Q → WP ((ev F e ρ).bind fun d => match d with
        | .list ds => M.ret (Out.nx (put ρ i (.own (.list ds))))
        | _ => .bad) Q := fun ρ Q w => by
      have w : WP ((ev F e ρ).bind fun d => match d with
        | .list ds => need (isFr e) (M.ret (Out.nx (put ρ i (.own (.list ds)))))
        | _ => .bad) Q := w
      refine WP.bind.mpr ((WP.bind.mp w).mono fun d w => ?_)
      cases d with
      | list ds => exact (wp_need w).2
      | _ => exact w
    cases hs : c.swp (.Name x p) v with
    | false =>
      obtain ⟨s1, s2, s3⟩ := st_ok k (pos := pos) h1 hs
      exact ts_eq (x_asgO k.nd v1 v2 v3 s1 ((snd e).fr c X v k h3 hf)) weak
    | true =>
      obtain ⟨t, ht, hi⟩ := (snd (g := g) (F := F) (fa := fa) e).sw c X v x p pos i k h3 hs v1
      refine ts_eq (ps_imp ht fun D σ H h => ?_) weak
      exact hi σ H _ (own_imp (isFr_ := true) rfl h)
  · cases h) (fun c s h => by simp [mt] at h)
theorem std_ret (e : Sx) : Std g F fa fu (.ret e) := Std.s (fun H0s Hs Z c X s k h => by
  unfold mt at h
  split at h
  · rename_i q
    cases q
    cases e with
    | var i =>
      simp only [mt, Syn.ex?] at h
      split at h
      · rename_i q; cases q
        obtain ⟨v1, v2, v3, v4⟩ := k.vis h
        exact x_retV v1 v2 v3 v4
      · cases h
    | _ => exact x_ret ((snd _).ex c X _ k h)
  · cases h) (fun c s h => by simp [mt] at h)
theorem std_expr (e : Sx) : Std g F fa fu (.expr e) := Std.s (fun H0s Hs Z c X s k h => by
  unfold mt at h
  split at h
  · rename_i q
    cases q
    simp only [Bool.and_eq_true] at h
    exact x_expr (swapN_of h.1) ((snd _).ex c X _ k h.2)
  · cases h) (fun c s h => by simp [mt] at h)
theorem std_bor (i j : Nat) (d e : Sx) : Std g F fa fu (.bor i j d e) := Std.s (fun H0s Hs Z c X s k h => by
  unfold mt at h
  split at h
  · rename_i q
    cases q
    simp only [Bool.and_eq_true, decide_eq_true_eq, Bool.not_eq_true'] at h
    obtain ⟨⟨⟨⟨⟨h1, h2⟩, h3⟩, h4⟩, h5⟩, h6⟩ := h
    obtain ⟨v1, v2, v3⟩ := k.loc h1
    obtain ⟨w1, w2, w3, w4⟩ := k.vis h2
    exact x_bor k.nd v1 v2 v3 w1 w2 w3 w4 h3 ((snd d).ts c X _ k h4 h5) ((snd e).ex c X _ k h6)
  · cases h) (fun c s h => by simp [mt] at h)
theorem std_app (i : Nat) (e : Sx) : Std g F fa fu (.app i e) := Std.s (fun H0s Hs Z c X s k h => by
  unfold mt at h
  split at h
  · rename_i q
    cases q
    simp only [Bool.and_eq_true, decide_eq_true_eq] at h
    obtain ⟨⟨⟨⟨h1, h2⟩, h3⟩, h4⟩, h5⟩ := h
    subst h2
    obtain ⟨w1, w2, w3, w4⟩ := k.vis h1
    exact x_app w1 w2 w3 w4 h3 (star_of h4) ((snd e).ex c X _ k h5)
  · cases h) (fun c s h => by simp [mt] at h)
theorem std_ext (i : Nat) (e : Sx) : Std g F fa fu (.ext i e) := Std.s (fun H0s Hs Z c X s k h => by
  unfold mt at h
  split at h
  · rename_i q
    cases q
    simp only [Bool.and_eq_true, decide_eq_true_eq] at h
    obtain ⟨⟨⟨⟨h1, h2⟩, h3⟩, h4⟩, h5⟩ := h
    subst h2
    obtain ⟨w1, w2, w3, w4⟩ := k.vis h1
    exact x_ext w1 w2 w3 w4 h3 (star_of h4) ((snd e).rd c X _ k h5)
  · cases h) (fun c s h => by simp [mt] at h)
theorem std_rmv (i : Nat) (e : Sx) : Std g F fa fu (.rmv i e) := Std.s (fun H0s Hs Z c X s k h => by
  unfold mt at h
  split at h
  · rename_i q
    cases q
    simp only [Bool.and_eq_true, decide_eq_true_eq] at h
    obtain ⟨⟨⟨⟨h1, h2⟩, h3⟩, h4⟩, h5⟩ := h
    subst h2
    obtain ⟨w1, w2, w3, w4⟩ := k.vis h1
    exact x_rmv w1 w2 w3 w4 h3 (star_of h4) ((snd e).ex c X _ k h5)
  · cases h) (fun c s h => by simp [mt] at h)
theorem std_pop (i : Nat) (e : Sx) : Std g F fa fu (.popS i e) := Std.s (fun H0s Hs Z c X s k h => by
  unfold mt at h
  split at h
  · rename_i q
    cases q
    simp only [Bool.and_eq_true, decide_eq_true_eq] at h
    obtain ⟨⟨⟨⟨h1, h2⟩, h3⟩, h4⟩, h5⟩ := h
    subst h2
    obtain ⟨w1, w2, w3, w4⟩ := k.vis h1
    exact x_pop w1 w2 w3 w4 h3 (star_of h4) ((snd e).ex c X _ k h5)
  · cases h) (fun c s h => by simp [mt] at h)
theorem std_appPop (i j : Nat) (e : Sx) : Std g F fa fu (.appPop i j e) := Std.s (fun H0s Hs Z c X s k h => by
  unfold mt at h
  split at h
  · rename_i q
    cases q
    simp only [Bool.and_eq_true, decide_eq_true_eq] at h
    obtain ⟨⟨⟨⟨⟨⟨⟨h1, h2⟩, h3⟩, h4⟩, h5⟩, h6⟩, h7⟩, h8⟩ := h
    subst h2 h5
    obtain ⟨w1, w2, w3, w4⟩ := k.vis h1
    obtain ⟨u1, u2, u3, u4⟩ := k.vis h4
    exact x_appPop w1 w2 w3 w4 u1 u2 u3 u4 h3 h6 (star_of h7) ((snd e).ex c X _ k h8)
  · cases h) (fun c s h => by simp [mt] at h)
theorem std_aug (i : Nat) (e : Sx) : Std g F fa fu (.augI i e) := Std.s (fun H0s Hs Z c X s k h => by
  unfold mt at h
  split at h
  · rename_i q
    cases q
    simp only [Bool.and_eq_true] at h
    obtain ⟨v1, v2, v3⟩ := k.loc h.1
    exact x_aug k.nd v1 v2 v3 ((snd e).ex c X _ k h.2)
  · cases h) (fun c s h => by simp [mt] at h)
theorem std_fput (i q : Nat) (e : Sx) : Std g F fa fu (.fput i q e) := Std.s (fun H0s Hs Z c X s k h => by
  unfold mt at h
  split at h
  · rename_i q
    cases q
    simp only [Bool.and_eq_true, decide_eq_true_eq] at h
    obtain ⟨⟨⟨h1, h2⟩, h3⟩, h4⟩ := h
    obtain ⟨v1, v2, v3, v4⟩ := k.vis h1
    exact x_fput (by have := k.u; omega) k.fko (k.fk ▸ h2) v1 v2 v3 v4 ((snd e).ex c X _ k h4) (swapS_of h3)
  · cases h) (fun c s h => by simp [mt] at h)
theorem std_iff {d a b : Sx} (ha : Std g F fa fu a) (hb : Std g F fa fu b) : Std g F fa fu (.iff d a b) := Std.s (fun H0s Hs Z c X s k h => by
  unfold mt at h
  split at h
  · rename_i q
    cases q
    simp only [Bool.and_eq_true, Bool.not_eq_true'] at h
    obtain ⟨⟨⟨h1, h2⟩, h3⟩, h4⟩ := h
    exact x_if ((snd d).ts c X _ k h1 h2) (ha.bl H0s Hs Z c X _ k h3) (hb.bl H0s Hs Z c X _ k h4)
  · cases h) (fun c s h => by simp [mt] at h)
theorem std_for {tg it b : Sx} (hb : Std g F fa fu b) : Std g F fa fu (.forS tg it b) := Std.s (fun H0s Hs Z c X s k h => by
  unfold mt at h
  split at h
  · rename_i q
    cases q
    simp only [Bool.and_eq_true] at h
    obtain ⟨⟨⟨h1, h2⟩, h3⟩, h4⟩ := h
    refine ts_eq (x_for k.xe k.calm ((snd it).it c X _ _ k h2).2 ((snd tg).tg c X _ k h3) (fun Z => hb.bl H0s Hs Z c X _ k h4) (fold_of h1)) fun ρ Q w => ?_
    have w : WP ((ev F it ρ).bind fun d => (itmD d).bind fun ds => forGo (tgt tg) (exGo fu F b) ds ρ) Q := w
    exact WP.bind.mpr (WP.bind.mpr ((WP.bind.mp w).mono fun d w => WP.bind.mp w))
  · cases h) (fun c s h => by simp [mt] at h)
theorem std_whil {d b : Sx} (hb : Std g F fa fu b) : Std g F fa fu (.whil d b) := Std.s (fun H0s Hs Z c X s k h => by
  unfold mt at h
  split at h
  · rename_i q
    cases q
    simp only [Bool.and_eq_true, Bool.not_eq_true'] at h
    obtain ⟨⟨h1, h2⟩, h3⟩ := h
    exact x_while k.xe ((snd d).ts c X _ k h1 h2) (hb.bl H0s Hs Z c X _ k h3) fu
  · cases h) (fun c s h => by simp [mt] at h)
end
end Pf
/-! PfP: two stores at once; blocks; the whole of statements. -/
namespace Pf
open PySem PySem.Spec PyProof.Rows L2
section
variable {g : Gc} {F : Nat → List D → M D} {fa : Option Addr} {fu : Nat}
theorem swap2 {env : Env} {x y : Str} {p p' q q' : Pos} {kt k2 : Nat} {v v' : Expr} (hk : env.scope.kind = .function) (hxy : x ≠ y) (hl : (p.line == p'.line) = true) (h1 : notStar v = true) (h2 : notStar v' = true)
    (h3 : (foldedForSure 8 v && foldedForSure 8 v') = false) (h4 : (constantsAlone 8 v && constantsAlone 8 v') = false) :
    swappedStores [.Tuple [.Name x p, .Name y p'] kt q] (.Tuple [v, v'] k2 q') env = pure (if (env.kindOf x == some .local && env.kindOf y == some .local) = true then some [x, y] else none) := by
  have hb : env.blockKind = .function := by unfold Env.blockKind; rw [hk]; rfl
  have hf : ([v, v'].all (foldedForSure 8)) = false := by simpa using h3
  have hc : ([v, v'].all (constantsAlone 8)) = false := by simpa using h4
  have hl' : p'.line = p.line := (eq_of_beq hl).symm
  unfold swappedStores
  simp only [hb]
  rw [if_neg (by simp)]
  rw [if_neg (by
    intro z
    simp only [List.any_cons, List.any_nil, Bool.or_false, Bool.or_eq_true] at z
    rcases z with z | z
    · cases v <;> first | (cases z; done) | (cases h1; done)
    · cases v' <;> first | (cases z; done) | (cases h2; done))]
  cases e1 : env.kindOf x == some .local <;> cases e2 : env.kindOf y == some .local
  all_goals
    simp [e1, e2, hl', Expr.pos, List.filterMap, hxy, hxy.symm, List.eraseDups_cons, hf, hc] 
theorem mkV_mkW {o : Bool} {e : Sx} {d : D} {Q : SV → Prop} (w : WP (mkV o e d) Q) : WP (mkW o d) Q := by
  unfold mkV at w
  unfold mkW
  cases o with
  | true =>
    rw [if_pos rfl] at w ⊢
    exact WP.bind.mpr ((WP.bind.mp w).mono fun ds w => (wp_need w).2)
  | false =>
    rw [if_neg (by intro z; cases z)] at w ⊢
    exact w
theorem md_ex {o : Bool} {e : Sx} {c : Sc} {X : Cx} {E : Expr} (k : XOk g F c X) (h : mt e c (.e E) = true) (hf : (!o || isFr e) = true) : PE X E (tG g fa (mdO o) (ev F e)) := by
  cases o with
  | true => exact (snd e).fr c X E k h (by simpa using hf)
  | false => exact (snd e).ex c X E k h
theorem std_par (i : Nat) (oi : Bool) (a : Sx) (j : Nat) (oj : Bool) (b : Sx) : Std g F fa fu (.par i oi a j oj b) := Std.s (fun H0s Hs Z c X s k h => by
  unfold mt at h
  split at h
  · rename_i q
    cases q
    simp only [Bool.and_eq_true, decide_eq_true_eq, Bool.not_eq_true'] at h
    obtain ⟨⟨⟨⟨⟨⟨⟨⟨⟨⟨⟨⟨h1, h2⟩, h3⟩, h4⟩, h5⟩, h6⟩, h7⟩, h8⟩, h9⟩, h10⟩, h11⟩, h12⟩, h13⟩ := h
    rename_i x p x' p' _ _ v v' _ _ _
    have hk : X.env.scope.kind = .function := by rw [k.sc]; exact k.kd
    have hsw := swap2 (q := by assumption) (q' := by assumption) (kt := by assumption) (k2 := by assumption) hk h6 h7 h4 h5 h10 h11
    obtain ⟨v1, v2, v3⟩ := k.loc h1
    obtain ⟨u1, u2, u3⟩ := k.loc h2
    have PA2 : PA X [v, v'] (tCons (tG g fa (mdO oi) (ev F a)) (tCons (tG g fa (mdO oj) (ev F b)) tNil)) := pa_cons (md_ex k h12 h8) (pa_cons (md_ex k h13 h9) pa_nil (star_of h5)) (star_of h4)
    have weak : ∀ ρ Q, WP (exGo fu F (.par i oi a j oj b) ρ) Q → WP ((ev F a ρ).bind fun x => (ev F b ρ).bind fun y => (mkW oi x).bind fun v => (mkW oj y).bind fun w => M.ret (Out.nx (put (put ρ i v) j w))) Q := fun ρ Q w => by
      have w : WP ((ev F a ρ).bind fun x => (ev F b ρ).bind fun y => need (decide (i ≠ j)) ((mkV oi a x).bind fun v => (mkV oj b y).bind fun w => M.ret (Out.nx (put (put ρ i v) j w)))) Q := w
      exact WP.bind.mpr ((WP.bind.mp w).mono fun x w => WP.bind.mpr ((WP.bind.mp w).mono fun y w => WP.bind.mpr ((mkV_mkW (WP.bind.mp (wp_need w).2)).mono fun v w => WP.bind.mpr (mkV_mkW (WP.bind.mp w)))))
    by_cases hB : (X.env.kindOf x == some .local && X.env.kindOf x' == some .local) = true
    · rw [if_pos hB] at hsw
      rw [Bool.and_eq_true] at hB
      exact ts_eq (ps_imp (ps_par k.calm k.nd v1 u1 h3 (eq_of_beq hB.1) (eq_of_beq hB.2) PA2 hsw) fun D σ H h => par_imp h3 h) weak
    · rw [if_neg hB] at hsw
      exact ts_eq (ps_imp (ps_asg (pe_tup PA2) (pg_tup k.calm (pgs_cons (pg_name k.nd v1 v2 v3) (pgs_cons (pg_name k.nd u1 u2 u3) pgs_nil))) rfl hsw) fun D σ H h => par_imp2 h3 h) weak
  · cases h) (fun c s h => by simp [mt] at h)
theorem std_cons {e a : Sx} (he : Std g F fa fu e) (ha : Std g F fa fu a) : Std g F fa fu (.cons e a) := by
  refine ⟨fun _ _ _ c _ s _ h => by simp [mt] at h, fun H0s Hs Z c X s k h => ?_⟩
  by_cases hz : isFrz e = true
  · cases e <;> first | (cases hz; done) | skip
    rename_i i
    simp only [mt, isFrz, if_true] at h
    exact b_frz (ha.bl H0s Hs Z c X s k h)
  · simp only [mt] at h
    rw [if_neg hz] at h
    cases s with
    | nil => cases h
    | cons st r =>
      simp only [Bool.and_eq_true] at h
      exact b_cons (he.st H0s Hs Z c X st k h.1) (ha.bl H0s Hs Z c X r k h.2)
theorem std (e : Sx) : Std g F fa fu e := by
  induction e with
  | nil =>
    refine ⟨fun _ _ _ c _ s _ h => by simp [mt] at h, fun H0s Hs Z c X s k h => ?_⟩
    cases s with
    | nil => exact b_nil
    | cons _ _ => simp [mt] at h
  | cons e a he ha => exact std_cons he ha
  | asg tg e => exact std_asg tg e
  | asgO i e => exact std_asgO i e
  | par i oi a j oj b => exact std_par i oi a j oj b
  | bor i j d e => exact std_bor i j d e
  | app i e => exact std_app i e
  | ext i e => exact std_ext i e
  | rmv i e => exact std_rmv i e
  | popS i e => exact std_pop i e
  | appPop i j e => exact std_appPop i j e
  | augI i e => exact std_aug i e
  | fput i q e => exact std_fput i q e
  | iff d a b _ ha hb => exact std_iff ha hb
  | forS tg it b _ _ hb => exact std_for hb
  | whil d b _ hb => exact std_whil hb
  | ret e => exact std_ret e
  | expr e => exact std_expr e
  | retN =>
    refine Std.s (fun H0s Hs Z c X s k h => ?_) (fun c s h => by simp [mt] at h)
    unfold mt at h
    split at h
    · rename_i q; cases q; exact x_retN
    · cases h
  | cont =>
    refine Std.s (fun H0s Hs Z c X s k h => ?_) (fun c s h => by simp [mt] at h)
    unfold mt at h
    split at h
    · rename_i q; cases q; exact x_cont
    · cases h
  | brk =>
    refine Std.s (fun H0s Hs Z c X s k h => ?_) (fun c s h => by simp [mt] at h)
    unfold mt at h
    split at h
    · rename_i q; cases q; exact x_brk
    · cases h
  | pas =>
    refine Std.s (fun H0s Hs Z c X s k h => ?_) (fun c s h => by simp [mt] at h)
    unfold mt at h
    split at h
    · rename_i q; cases q; exact x_pas
    · cases h
  | never => exact Std.s (fun H0s Hs Z c X s k h => x_never) (fun c s h => by simp [mt] at h)
  | _ => exact Std.no (fun c s h => by simp [mt, Syn.ex?] at h) (fun c s h => by simp [mt, Syn.ex?] at h)
end
end Pf
/-! PfQ: defs by their bodies; the end of a law. -/
namespace Pf
open PySem PySem.Spec PyProof.Rows L2
section
variable {P : Program} {w : World} {K : PySem.W.Frag} {mg : Str → Option Value} {base : Heap}
/-- a def by its body, where no repr is under way -/
theorem fn_g {x qual : Str} {st : Stmt} {f : Addr} {fd : FuncData} {N ps : List Str} {k : Nat} {sp : Sp} (Fn : Fun K x qual st f fd) (S : FnScope N ps (defScope st)) (ln : ∀ vs H Q E, sp vs H Q E → vs.length = ps.length)
    (body : ∀ (cdv : Value) (A : Around) (outer : List Env) (s : Shared) (H : Hp) (vs : List V) (Q : VK) (E : XK), Room k (A.deeper (envOfC qual (defScope st) s.heap.objs.size f cdv)) → A.guards = some [] → sp vs H Q E →
      ∃ t, PSs (cxOf L2.CX0 P w K mg base N qual (defScope st) f cdv A outer s H E).nox (defBody st) t ∧ t { nx := fun _ H' => Q .non H', rt := Q } (start N vs) H) : FnG P w K mg base (k + 1) f fd ps sp := by
  obtain ⟨oc, od, kV, doc, pm, an, cdv, ct, osl, e, lk, hcd⟩ := Fn.ex
  subst e
  refine ⟨ln, fun A outer s H args us vs Q E room gd env0 binds rel want => ?_⟩
  have hlen := ln _ _ _ _ want
  have inK : K.In s.heap := env0.mod.kin.keeps fun b o q => (env0.bs b o q).1
  have nolim : s.heap.NoLimit := env0.mod.nolimit.keeps fun b o q => (env0.bs b o q).1
  refine codeAny_call_function room.depth (inK _ _ lk) rfl S.co S.gen rfl (PySem.W.codeRec_of inK hcd) (binds _ _ _ _ ?_)
  refine wpAny_newFunctionEnv_cells S.kind (fun ⟨n, v⟩ hy => ?_) fun env he s1 made => ?_
  · rcases S.par n (List.of_mem_zip hy).1 with q | q
    · exact .inl q
    · exact .inr ⟨q, PySem.W.cellsFrom_some _ _ _ (.inl q)⟩
  subst he
  refine ⟨nolim.keeps made.toInCall.keep, codeAny_func ?_⟩
  obtain ⟨t, run, hold⟩ := body cdv A outer s H vs Q E (room.deeper _) gd want
  have I := inv_start (CX := L2.CX0) (E := E) (f := f) (cd := cdv) S room.hd env0 hlen rel made
  have fin : ∀ {σ2 : L2.St} {H2 : Hp} {s2 : Shared} {v : V} {u : Value}, Inv (cxOf L2.CX0 P w K mg base N qual (defScope st) f cdv A outer s H E) [] σ2 H2 s2 → RelV v u → Q v H2 → CE outer P w H s Q u s2 :=
    fun {σ2 H2 s2 v u} J rv q => ⟨v, H2, J.os, J.bare, J.base, J.hok, rv, q⟩
  refine wpAny_mono (run.nox.run [] s1 _ H _ I hold) (fun fl s2 hs => ?_) fun e s2 hs => hs
  cases fl with
  | ret u => obtain ⟨v, σ2, H2, J, rv, q⟩ := hs; exact fin J rv q
  | next => obtain ⟨σ2, H2, J, q⟩ := hs; exact fin (v := V.non) (u := Value.none) J rfl q
  | brk => obtain ⟨_, _, _, q⟩ := hs; exact q.elim
  | cont => obtain ⟨_, _, _, q⟩ := hs; exact q.elim
theorem FnG.mono {j k : Nat} {f : Addr} {fd : FuncData} {ps : List Str} {sp : Sp} (G : FnG P w K mg base j f fd ps sp) (h : j ≤ k) : FnG P w K mg base k f fd ps sp :=
  ⟨G.len, fun A outer s H args us vs Q E room => G.run A outer s H args us vs Q E (room.mono h)⟩
/-- nothing is promised -/
theorem fn_bad {g : Gc} {k n : Nat} {f : Addr} {fd : FuncData} {ps : List Str} (hn : ps.length = n) {m : List D → M D} (hm : ∀ ds, m ds = .bad) : FnG P w K mg base k f fd ps (spD g n m) :=
  ⟨fun vs H Q E h => h.1.trans hn.symm, fun A outer s H args us vs Q E _ _ _ _ _ h => by
    obtain ⟨_, _, _, ds, _, _, q⟩ := h
    rw [hm] at q
    exact q.elim⟩

/-! ### the table of defs -/
/-- a def of the text, as the head leaves it -/
structure Dfn where
  nm : Str
  ps : List Str
  st : Stmt
  kb : List (List Str × List Nat)
structure DfnIn (K : PySem.W.Frag) (mg : Str → Option Value) (d : Dfn) (a : Addr) (fd : FuncData) : Prop where
  fn : Fun K d.nm d.nm d.st a fd
  mg_ : mg d.nm = some (.ref a)
  bd : Binds K fd d.ps []
  kb : ∀ q ∈ d.kb, KBd K fd d.ps q.1 q.2
/-- what a stage of the table gives -/
structure Stg (g : Gc) (tb : List Dfn) (P : Program) (w : World) (K : PySem.W.Frag) (mg : Str → Option Value) (base : Heap) (F : Nat → List D → M D) (lv : Nat) : Prop where
  fns : ∀ k d, tb[k]? = some d → ∃ a fd, DfnIn K mg d a fd ∧ g.fn k = some a ∧ FnG P w K mg base lv a fd d.ps (spD g d.ps.length (F k)) ∧ ∀ ds Q, WP (F k ds) Q → ds.length = d.ps.length
  vals : ∀ k a, g.fn k = some a → ∃ d, tb[k]? = some d
def updF (F : Nat → List D → M D) (i : Nat) (f : List D → M D) : Nat → List D → M D := fun k => if k = i then f else F k
def nFn (n : Nat) (f : List D → M D) : List D → M D := fun ds => need (decide (ds.length = n)) (f ds)
theorem nFn_len {n : Nat} {f : List D → M D} {ds : List D} {Q : D → Prop} (w : WP (nFn n f ds) Q) : ds.length = n := of_decide_eq_true (wp_need w).1
theorem stg_zero {g : Gc} {tb : List Dfn} (h : ∀ k d, tb[k]? = some d → ∃ a fd, DfnIn K mg d a fd ∧ g.fn k = some a) (hv : ∀ k a, g.fn k = some a → ∃ d, tb[k]? = some d) : Stg g tb P w K mg base (fun _ _ => .bad) 0 :=
  ⟨fun k d e => let ⟨a, fd, i, q⟩ := h k d e; ⟨a, fd, i, q, fn_bad rfl fun _ => rfl, fun _ _ z => z.elim⟩, hv⟩
/-- one def more -/
theorem Stg.add {g : Gc} {tb : List Dfn} {F : Nat → List D → M D} {lv i : Nat} {f : List D → M D} {d : Dfn} (S : Stg g tb P w K mg base F lv) (hd : tb[i]? = some d)
    (h : ∀ a fd, DfnIn K mg d a fd → g.fn i = some a → FnG P w K mg base (lv + 1) a fd d.ps (spD g d.ps.length f)) (hl : ∀ ds Q, WP (f ds) Q → ds.length = d.ps.length) : Stg g tb P w K mg base (updF F i f) (lv + 1) := by
  refine ⟨fun k d' e => ?_, S.vals⟩
  obtain ⟨a, fd, i1, i2, i3, i4⟩ := S.fns k d' e
  refine ⟨a, fd, i1, i2, ?_⟩
  unfold updF
  by_cases hk : k = i
  · subst hk
    rw [hd] at e
    cases e
    rw [if_pos rfl]
    exact ⟨h a fd i1 i2, hl⟩
  · rw [if_neg hk]
    exact ⟨i3.mono (Nat.le_succ _), i4⟩
/-- the static part at a def's entry -/
def kbAll (tb : List Dfn) : List (Nat × List Str × List Nat) := (List.range tb.length).flatMap fun k => match tb[k]? with
  | some d => d.kb.map fun q => (k, q.1, q.2)
  | none => []
def sc0 (fk : Str × Str × Str × Str) (tb : List Dfn) (bn : List Str) (cs : List (Str × D)) (N : List Str) (st : Stmt) : Sc := ⟨N, defScope st, fun _ => true, tb.map fun d => (d.nm, d.ps), bn, cs, fk, kbAll tb⟩
/-- the globals -/
structure Glb (g : Gc) (mg : Str → Option Value) (bn : List Str) (cs : List (Str × D)) : Prop where
  fko : FkOk g.fk
  bn : ∀ x ∈ bn, mg x = none
  cs : ∀ x d, (x, d) ∈ cs → ∃ u v, mg x = some u ∧ RelV v u ∧ (∀ fa H, Rp g fa H v d) ∧ ∀ ds, d ≠ .list ds
theorem xok_of {g : Gc} {tb : List Dfn} {bn : List Str} {cs : List (Str × D)} {F : Nat → List D → M D} {lv : Nat} (S : Stg g tb P w K mg base F lv) (G : Glb g mg bn cs) (hK : K = g.K) {N ps : List Str} {st : Stmt} (sc : FnScope N ps (defScope st)) {qual : Str} {f : Addr} {cdv : Value} {A : Around} {outer : List Env} {s : Shared} {H : Hp} {E : XK}
    (hr : Room lv (A.deeper (envOfC qual (defScope st) s.heap.objs.size f cdv))) (gd : A.guards = some []) :
    XOk g F (sc0 g.fk tb bn cs N st) (cxOf L2.CX0 P w K mg base N qual (defScope st) f cdv A outer s H E).nox where
  N := rfl
  nd := sc.nd
  sc := rfl
  kd := sc.kind
  cel := rfl
  calm := rfl
  xe := rfl
  K := hK
  gd := gd
  rm := by
    refine ⟨lv, hr, fun k x ps h => ?_, fun k a h => ?_⟩
    · have h : (tb.map fun d => (d.nm, d.ps))[k]? = some (x, ps) := h
      rw [List.getElem?_map] at h
      cases e : tb[k]? with
      | none => rw [e] at h; cases h
      | some d =>
        rw [e] at h
        cases h
        obtain ⟨a, fd, i1, i2, i3, i4⟩ := S.fns k d e
        exact ⟨⟨a, fd, lv, Nat.le_refl _, i1.mg_, i1.fn.kp, i1.bd, i2, i3⟩, i4⟩
    · obtain ⟨d, e⟩ := S.vals k a h
      obtain ⟨a', fd, i1, i2, i3, i4⟩ := S.fns k d e
      rw [h] at i2
      cases i2
      exact ⟨fd, lv, d.ps, Nat.le_refl _, i1.fn.kp, i1.bd, i3, i4⟩
  bn := G.bn
  cs := G.cs
  fk := rfl
  fko := G.fko
  kb := fun k ks p x ps hz h => by
    have h : (tb.map fun d => (d.nm, d.ps))[k]? = some (x, ps) := h
    rw [List.getElem?_map] at h
    cases e : tb[k]? with
    | none => rw [e] at h; cases h
    | some d =>
      rw [e] at h
      cases h
      obtain ⟨a, fd, i1, i2, i3, i4⟩ := S.fns k d e
      have hz : (k, ks, p) ∈ (List.range tb.length).flatMap fun k => (match tb[k]? with
        | some d => d.kb.map fun q => (k, q.1, q.2)
        | none => []) := hz
      obtain ⟨k', _, hk⟩ := List.mem_flatMap.mp hz
      cases e' : tb[k']? with
      | none => rw [e'] at hk; cases hk
      | some d' =>
        rw [e'] at hk
        obtain ⟨q, hq, eq⟩ := List.mem_map.mp hk
        cases eq
        rw [e] at e'
        cases e'
        exact ⟨lv, lv, a, fd, hr, Nat.le_refl _, i1.mg_, i1.fn.kp, i3, i4, i1.kb q hq⟩
/-- the slots at the entry -/
theorem rep_start {g : Gc} {fa : Option Addr} {H0 H : Hp} {N : List Str} {vs : List V} {ds : List D} (b : Bs g fa H0 H) (r : RpAll g fa H0 vs ds) : RepS g fa H0 H (L2.start N vs) (ev0 N.length ds) := by
  have hl := r.len
  have noO : ∀ (i : Nat) d, (ev0 N.length ds)[i]? ≠ some (some (SV.own d)) := fun i d h => by
    unfold ev0 at h
    by_cases hi : i < ds.length
    · rw [List.getElem?_append_left (by simpa using hi), List.getElem?_map] at h
      cases e : ds[i]? <;> rw [e] at h <;> cases h
    · rw [List.getElem?_append_right (by simpa using hi), List.getElem?_replicate] at h
      split at h <;> cases h
  refine ⟨b, ?_, fun i sv e => ?_, fun i j d e v h => absurd h (noO i d)⟩
  · unfold L2.start ev0
    simp only [List.length_append, List.length_map, List.length_replicate]
    omega
  · unfold ev0 at e
    by_cases hi : i < ds.length
    · rw [List.getElem?_append_left (by simpa using hi), List.getElem?_map] at e
      cases e1 : ds[i]? with
      | none => rw [e1] at e; cases e
      | some d =>
        rw [e1] at e
        cases e
        obtain ⟨v, hv, rv⟩ := r.get' e1
        refine ⟨v, ?_, rv⟩
        unfold L2.start
        rw [List.getElem?_append_left (by rw [List.length_map]; omega), List.getElem?_map, hv]
        rfl
    · rw [List.getElem?_append_right (by simpa using hi), List.getElem?_replicate] at e
      split at e <;> cases e
/-- A DEF BY ITS MATCHED BODY -/
theorem fn_body {g : Gc} {tb : List Dfn} {bn : List Str} {cs : List (Str × D)} {F : Nat → List D → M D} {lv : Nat} (S : Stg g tb P w K mg base F lv) (G : Glb g mg bn cs) (hK : K = g.K) {N : List Str} {d : Dfn} {b : Sx} (fu : Nat) (sc : FnScope N d.ps (defScope d.st))
    (hm : mt b (sc0 g.fk tb bn cs N d.st) (.b (defBody d.st)) = true) {a : Addr} {fd : FuncData} (i : DfnIn K mg d a fd) : FnG P w K mg base (lv + 1) a fd d.ps (spD g d.ps.length (nFn d.ps.length (runD fu N.length F b))) := by
  refine fn_g i.fn sc (fun vs H Q E h => h.1) fun cdv A outer s H vs Q E room gd h => ?_
  obtain ⟨_, fa, H0, ds, bs, r, w⟩ := h
  obtain ⟨_, w⟩ := wp_need w
  refine ⟨_, (std (fa := fa) (fu := fu) b).bl H0 H H0 _ _ _ (xok_of S G hK sc room gd) hm, H0, ev0 N.length ds, rep_start bs r, ⟨Ext.refl bs, fun i' d' a' h1 => ?_, bs, fun _ _ q => q⟩, (WP.bind.mp w).mono fun o w => ?_⟩
  · exact absurd h1 (fun z => by
      unfold ev0 at z
      by_cases hi : i' < ds.length
      · rw [List.getElem?_append_left (by simpa using hi), List.getElem?_map] at z
        cases e : ds[i']? <;> rw [e] at z <;> cases z
      · rw [List.getElem?_append_right (by simpa using hi), List.getElem?_replicate] at z
        split at z <;> cases z)
  · cases o with
    | nx ρ => exact fun σ' H0' H' R' e' => w .non H0' H' e'.x .non
    | ct ρ => exact w.elim
    | bk ρ => exact w.elim
    | rt d => exact fun v H0' H' x r' => w v H0' H' x r'
end
end Pf
/-! PfS: the feed's def, the law's def, the law's end. -/
namespace Pf
open PySem PySem.Spec PyProof.Rows L2
section
variable {P : Program} {w : World} {K : PySem.W.Frag} {mg : Str → Option Value} {base : Heap}
/-! ### the end -/
/-- the law's call at the heap behind the top, by a promise that holds where no repr is under way -/
theorem law_run {lv : Nat} {fA sA : Addr} {fd : FuncData} {nm : Str} {sp : Sp} {S : Shared} {its : List Value} {ns : List Int} {mb : Str → Option Value}
    (kin : K.In S.heap) (g1 : S.heap.Ns mainGlobals mg) (g2 : S.heap.Ns builtinsNs mb) (g3 : ∀ y : Str, y ≠ "__name__" → mb y = bootBuiltins y) (g4 : S.heap.NoLimit) (g5 : S.gens = #[])
    (sc : S.heap.get? sA = some { cls := .type "list", data := .seq its.toArray }) (isI : IntsAre its ns) (few : ns.length ≤ sizeLine) (room : Room lv callerA)
    (fn : ∀ B : Heap, K.In B → B.Ns mainGlobals mg → FnG P w K mg B lv fA fd [nm] sp) (bnd : ∀ (T : Shared) (u : Value), BindsTo T fd ⟨[u], []⟩ [(nm, u)])
    (ask : ∀ H : Hp, Only H → SqL K H sA (ns.map V.int) → sp [.ref sA] H (fun v _ => v = .bl true) fun _ _ _ => False) :
    codeAny (model P w) callerA (.call (.ref fA) ⟨[.ref sA], []⟩) (fun r T => r = .ok (.ret (.bool true)) ∧ OldK S.heap T.heap ∧ T.os = S.os ∧ AllBare T.gens) S := by
  have body : ∀ H : Hp, Only H → SqL K H sA (ns.map V.int) → HOk P w H S.heap → (∀ c, H c ≠ none → c = sA) → (H sA ≠ none → K.lookup sA = none) →
      codeAny (model P w) callerA (.call (.ref fA) ⟨[.ref sA], []⟩) (fun r T => r = .ok (.ret (.bool true)) ∧ OldK S.heap T.heap ∧ T.os = S.os ∧ AllBare T.gens) S := by
    intro H only sq okH onlyS notK
    have untr : ∀ {c : Addr}, c ≠ sA → H c = none := fun {c} ne => Classical.byContradiction fun z => ne (onlyS c z)
    have dicts : ∀ {c : Addr} {m : Str → Option Value}, S.heap.Ns c m → (hidT S.heap H).Ns c m := fun {c m} q => by
      obtain ⟨o, es, ep, q1, q2, q3⟩ := q
      refine ⟨o, es, ep, hidT_get q1 (untr ?_), q2, q3⟩
      rintro rfl
      rw [sc] at q1
      cases q1
      cases q2
    have kinB : K.In (hidT S.heap H) := fun c o e => by
      refine hidT_get (kin c o e) (Classical.byContradiction fun z => ?_)
      have := onlyS c z
      subst this
      rw [notK z] at e
      cases e
    have md : Mod K mg (hidT S.heap H) := by
      refine ⟨kinB, dicts g1, ⟨mb, dicts g2, g3⟩, ?_⟩
      obtain ⟨mc, q1, q2⟩ := g4
      exact ⟨mc, dicts q1, q2⟩
    have en : Env0 P w K mg (hidT S.heap H) callerA [] S H := by
      refine ⟨rfl, md, fun c o e => of_hidT e, Nat.le_of_eq (hidT_size _ _), trivial, fun c hc => ?_, okH, .of_eq g5⟩
      exact absurd (show c ∈ ([] : List Addr) from hc) (by simp)
    have run := (fn _ kinB (dicts g1)).run callerA [] S H ⟨[.ref sA], []⟩ [.ref sA] [.ref sA] _ _ room rfl en (bnd S (.ref sA)) (.cons rfl .nil) (ask H only sq)
    refine codeAny_mono run fun r T q => ?_
    cases r with
    | error e => exact False.elim q
    | ok fl =>
      cases fl with
      | ret u =>
        obtain ⟨v, H', o1, o2, o3, o4, rv, qv⟩ := q
        have qv : v = .bl true := qv
        subst qv
        obtain rfl : u = Value.bool true := rv
        refine ⟨rfl, OldK.of_keep fun c o e => ?_, o1, o2⟩
        cases hc : H c with
        | none => exact o3.keep c o e hc (fun z => absurd (show c ∈ ([] : List Addr) from z) (by simp)) (by simp)
        | some q =>
          rcases only c with z | ⟨ob, xs, z⟩
          · rw [hc] at z; cases z
          · obtain ⟨e1, _⟩ := okH c _ z
            obtain ⟨e2, _⟩ := o4 c _ (o3.frzs c ob _ z)
            rw [e] at e1
            cases e1
            exact e2
      | next => exact False.elim q
      | brk => exact False.elim q
      | cont => exact False.elim q
  have rel := vals_ints isI
  have len := isI.length
  by_cases hk : K.lookup sA = none
  · let ob : Obj := { cls := .type "list", data := .seq its.toArray }
    have at' : ∀ c, (if c = sA then some (HO.frz ob (.lst (ns.map V.int))) else none) ≠ none → c = sA := fun c z => Classical.byContradiction fun ne => z (if_neg ne)
    refine body (fun c => if c = sA then some (.frz ob (.lst (ns.map V.int))) else none) (fun c => ?_) (.inl (.inr ⟨ob, if_pos rfl⟩)) (fun c u z => ?_) at' fun _ => hk
    · by_cases ec : c = sA
      · exact .inr ⟨_, _, if_pos ec⟩
      · exact .inl (if_neg ec)
    · have ec := at' c (by intro q; have z : (if c = sA then some (HO.frz ob (.lst (ns.map V.int))) else none) = some u := z; rw [q] at z; cases z)
      subst ec
      have z := (if_pos rfl).symm.trans z
      cases z
      exact ⟨sc, by rw [List.length_map]; exact few, its, _, rel, sc⟩
  · cases e : K.lookup sA with
    | none => exact absurd e hk
    | some o =>
      have q := kin sA o e
      rw [sc] at q
      cases q
      exact body (fun _ => none) (fun _ => .inl rfl) (.inr ⟨_, its.toArray, _, e, rfl, rfl, rfl, by rw [List.size_toArray, len]; exact few, by simpa using rel⟩) (fun c u z => by have z : (none : Option HO) = some u := z; cases z) (fun c z => absurd rfl z) fun z => absurd rfl z
end
/-- THE LAW'S END -/
theorem law_end {l : PySem.W.OpenLaw} {n lv : Nat} {q : Program} {loose : List Str} {XP : (Str → Option Value) → Heap → Prop} {YP : World → Heap → Prop} {d : DefRec} {nm : Str} (hm : l.most = some n) (hz : n ≤ sizeLine) (nod : d.params.defaults = []) (room : Room lv callerA)
    (given : ∀ (w : World) (mg : Str → Option Value) (fA : Addr) (h : Heap), YP w h → h.Ns mainGlobals mg → mg d.name = some (.ref fA) → ∃ (K : PySem.W.Frag) (fd : FuncData) (sp : Sp), K.In h ∧ (∀ (s : Shared) (u : Value), BindsTo s fd ⟨[u], []⟩ [(nm, u)]) ∧
      (∀ (H : Hp) (a : Addr) (ns : List Int), ns.length ≤ n → Only H → SqL K H a (ns.map V.int) → sp [.ref a] H (fun v _ => v = .bl true) fun _ _ _ => False) ∧ ∀ B : Heap, K.In B → B.Ns mainGlobals mg → FnG l.prog w K mg B lv fA fd [nm] sp) :
    PySem.W.WalkO q loose XP YP l.row.toRowW d [] (fun f vs => PySem.call f vs) := by
  refine Att.attach_call hm nod fun w S0 S mg mb fA o pm cd doc sA its ns G Y ho hd hcd hmg sc isI few gens => ?_
  obtain ⟨K, fd, sp, kin, bnd, ask, fn⟩ := given w mg fA _ Y G.T.g hmg
  exact law_run kin G.T.g G.T.b G.T.builtins G.T.nolimit gens sc isI (Nat.le_trans few hz) room fn bnd fun H a b => ask H sA ns few a b
end Pf
/-! PfT: the feed's def, the law's def. -/
namespace Pf
open PySem PySem.Spec PyProof.Rows L2
/-- return {.. list(script[:n]), .. 0, .. 0, .. 0} -/
def isFeed (x : Str) (fk : Str × Str × Str × Str) (cut : Int) : List Stmt → Bool
  | [.Return (some (.Dict [some (.Constant (.str a) _ _), some (.Constant (.str b) _ _), some (.Constant (.str c) _ _), some (.Constant (.str d) _ _)] [.Call (.Name l _) [.Subscript (.Name y _) (.Slice none (some (.Constant (.int n) _ _)) none _) _] [] _, .Constant (.int i) _ _, .Constant (.int j) _ _, .Constant (.int k) _ _] _)) _] =>
    decide (a = fk.1) && decide (b = fk.2.1) && decide (c = fk.2.2.1) && decide (d = fk.2.2.2) && decide (l = "list") && decide (y = x) && decide (n = cut) && decide (i = 0) && decide (j = 0) && decide (k = 0)
  | _ => false
/-- the feed's first state -/
def feed0 (fk : Str × Str × Str × Str) (ca : Addr) : List (Key × V) := [(.inr fk.1, .ref ca), (.inr fk.2.1, .int 0), (.inr fk.2.2.1, .int 0), (.inr fk.2.2.2, .int 0)]
def spFeed (K : PySem.W.Frag) (fk : Str × Str × Str × Str) (cut : Int) : Sp := fun vs H Q _ => ∃ (a : Addr) (ns : List Int), vs = [.ref a] ∧ SqL K H a (ns.map V.int) ∧
  ∀ (H' : Hp) (f ca : Addr), H' f = some (.dK (feed0 fk ca)) → H' ca = some (.lst (cutV (ns.map V.int) none (some cut))) → (∀ b o, H b = some o → H' b = some o) → H f = none → H ca = none → Q (.ref f) H'
section
variable {P : Program} {w : World} {K : PySem.W.Frag} {mg : Str → Option Value} {base : Heap}
theorem upd_self {H : Hp} {a : Addr} {o : HO} : upd H a o a = some o := if_pos rfl
theorem upd_ne {H : Hp} {a b : Addr} {o : HO} (h : b ≠ a) : upd H a o b = H b := if_neg h
theorem fn_feed {x : Str} {d : Dfn} {fk : Str × Str × Str × Str} {cut : Int} {a : Addr} {fd : FuncData} (i : DfnIn K mg d a fd) (hps : d.ps = [x]) (hx1 : (x == ("__debug__" : Str)) = false) (hx2 : (x == ("__classdict__" : Str)) = false) (sc : FnScope [x] [x] (defScope d.st)) (hb : isFeed x fk cut (defBody d.st) = true) (ok : FkOk fk) (ml : mg "list" = none) (gl : (defScope d.st).names.lookup ("list" : Str) = some .globalImplicit) :
    FnG P w K mg base 1 a fd d.ps (spFeed K fk cut) := by
  rw [hps]
  refine fn_g i.fn sc (fun vs H Q E h => ?_) fun cdv A outer s H vs Q E room gd h => ?_
  · obtain ⟨a, ns, rfl, _⟩ := h
    rfl
  · generalize defBody d.st = bd at hb ⊢
    unfold isFeed at hb
    split at hb
    · simp only [Bool.and_eq_true, decide_eq_true_eq] at hb
      obtain ⟨⟨⟨⟨⟨⟨⟨⟨⟨rfl, rfl⟩, rfl⟩, rfl⟩, rfl⟩, rfl⟩, rfl⟩, rfl⟩, rfl⟩, rfl⟩ := hb
      have hv : ∀ pv : Pos, PE (cxOf L2.CX0 P w K mg base [_] d.nm (defScope d.st) a cdv A outer s H E).nox (.Name _ pv) (tVar 0) := fun pv => pe_var rfl (by
        rcases sc.par _ (List.mem_singleton.mpr rfl) with q | q
        · exact .inl q
        · exact .inr (.inl q)) hx1 hx2
      refine ⟨_, pss_one (ps_ret (pe_disp (pps_cons pe_str (pe_callTy (call_list_of) gl ml (by decide +kernel) (pa_cons (pe_slice sl_list (hv _) po_none (po_some pe_int)) pa_nil)) (pps_cons pe_str pe_int (pps_cons pe_str pe_int (pps_cons pe_str pe_int pps_nil)))) rfl rfl (by simp) (by show (4 : Nat) ≤ 15; decide))), ?_⟩
      obtain ⟨sa, ns, rfl, hS, q⟩ := h
      intro p hp
      have hS1 : SqL K (upd H p (.dK [])) sa (ns.map V.int) := by
        rcases hS with hR | hR
        · exact .inl (by
            have ne : sa ≠ p := by
              rintro rfl
              rcases hR with hR | ⟨o, hR⟩ <;> rw [hp] at hR <;> cases hR
            rcases hR with hR | ⟨o, hR⟩
            · exact .inl ((upd_ne ne).trans hR)
            · exact .inr ⟨o, (upd_ne ne).trans hR⟩)
        · exact .inr hR
      refine ⟨_, rfl, _, rfl, sa, _, rfl, hS1, fun l1 hl1 => ⟨l1, _, rfl, .inl (.inl (.inl upd_self)), fun l2 hl2 => ?_⟩⟩
      have n21 : l2 ≠ l1 := by rintro rfl; rw [upd_self] at hl2; cases hl2
      have n1p : l1 ≠ p := by rintro rfl; rw [upd_self] at hl1; cases hl1
      rw [upd_ne n21] at hl2
      have n2p : l2 ≠ p := by rintro rfl; rw [upd_self] at hl2; cases hl2
      rw [upd_ne n2p] at hl2
      rw [upd_ne n1p] at hl1
      refine ⟨by rw [upd_ne n2p.symm, upd_ne n1p.symm, upd_self], feed0 _ l2, rfl, (by show (4 : Nat) ≤ 15; decide), ?_⟩
      have em : ∀ fk : Str × Str × Str × Str, FkOk fk → mergeK [] (feed0 fk l2) = feed0 fk l2 := fun fk ok => by
        have a1 := inr_ne ok.a; have a2 := inr_ne ok.b; have a3 := inr_ne ok.c; have a4 := inr_ne ok.d; have a5 := inr_ne ok.e; have a6 := inr_ne ok.f
        simp [mergeK, feed0, putK, a1, a2, a3, a4, a5, a6, ok.a, ok.b, ok.c, ok.d, ok.e, ok.f]
      rw [em _ ok]
      refine q _ p l2 upd_self (by rw [upd_ne n2p, upd_self]) (fun b o hb => ?_) hp hl2
      have nb : ∀ c, H c = none → b ≠ c := fun c hc z => by rw [z, hc] at hb; cases hb
      rw [upd_ne (nb _ hp), upd_ne (nb _ hl2), upd_ne (nb _ hl1), upd_ne (nb _ hp)]
      exact hb
    · cases hb
/-- feed = _law_feed(script) -/
def isFst (f fe x : Str) : Stmt → Bool
  | .Assign [.Name a _] (.Call (.Name b _) [.Name c _] [] _) _ => decide (a = f) && decide (b = fe) && decide (c = x)
  | _ => false
/-- the law's promise -/
def spLaw (K : PySem.W.Frag) (n : Nat) : Sp := fun vs H Q _ => ∃ (a : Addr) (ns : List Int), vs = [.ref a] ∧ ns.length ≤ n ∧ SqL K H a (ns.map V.int) ∧ ∀ H', Q (.bl true) H'
theorem cut_int (ns : List Int) (c : Int) : ∃ ms : List Int, cutV (ns.map V.int) none (some c) = ms.map V.int := by
  refine ⟨(ns.drop (HT.sIx (ns.map V.int).length 0 none)).take (HT.sIx (ns.map V.int).length (ns.map V.int).length (some c) - HT.sIx (ns.map V.int).length 0 none), ?_⟩
  unfold cutV
  rw [List.map_take, List.map_drop]
theorem fn_law {fn : Nat → Option Addr} {fk : Str × Str × Str × Str} {tb : List Dfn} {bn : List Str} {cs : List (Str × D)} {F : Nat → List D → M D} {lv n : Nat} {cut : Int} (S : ∀ ns, Stg ⟨K, fn, fk, ns⟩ tb P w K mg base F lv) (G : ∀ ns, Glb ⟨K, fn, fk, ns⟩ mg bn cs) (hlv : 1 ≤ lv)
    {N : List Str} {d df : Dfn} {b : Sx} {s0 : Stmt} {rest : List Stmt} {f x : Str} (fu : Nat) (sc : FnScope N d.ps (defScope d.st)) (hps : d.ps = [x]) (hN1 : N[1]? = some f) (hB : defBody d.st = s0 :: rest) (h0 : isFst f df.nm x s0 = true)
    (hv0 : (sc0 fk tb bn cs N d.st).vis 0 x = true) (hl1 : (sc0 fk tb bn cs N d.st).loc 1 f = true) (hgl : (sc0 fk tb bn cs N d.st).gl df.nm = true)
    {fA : Addr} {ffd : FuncData} (fi : DfnIn K mg df fA ffd) (hfp : df.ps.length = 1) (ff : FnG P w K mg base 1 fA ffd df.ps (spFeed K fk cut))
    (hm : mt b (sc0 fk tb bn cs N d.st) (.b rest) = true) (hw : ∀ ns : List Int, WP (exGo fu F b (none :: some (.dat (feedD ns)) :: List.replicate (N.length - 2) none)) fun o => match o with
      | .rt v => v = .bool true
      | _ => False)
    {a : Addr} {fd : FuncData} (i : DfnIn K mg d a fd) : FnG P w K mg base (lv + 1) a fd d.ps (spLaw K n) := by
  rw [hps]
  refine fn_g i.fn (hps ▸ sc) (fun vs H Q E h => ?_) fun cdv A outer s H vs Q E room gd h => ?_
  · obtain ⟨a, ns, rfl, _⟩ := h
    rfl
  · obtain ⟨sa, ns, rfl, hn, hS, q⟩ := h
    rw [hB]
    obtain ⟨ms, ems⟩ := cut_int ns cut
    have xo := xok_of (outer := outer) (H := H) (E := E) (qual := d.nm) (f := a) (cdv := cdv) (s := s) (S ms) (G ms) rfl sc room gd
    unfold isFst at h0
    split at h0
    · simp only [Bool.and_eq_true, decide_eq_true_eq] at h0
      obtain ⟨⟨rfl, rfl⟩, rfl⟩ := h0
      obtain ⟨v1, v2, v3, v4⟩ := xo.vis hv0
      obtain ⟨l1, l2, l3⟩ := xo.loc hl1
      obtain ⟨g1, g2, g3⟩ := xo.gl hgl
      -- the call
      rename_i c p2 p1 p0
      have hcall : ∀ p1 p2 p3, PE (cxOf L2.CX0 P w K mg base N d.nm (defScope d.st) a cdv A outer s H E).nox (.Call (.Name df.nm p1) [.Name c p2] [] p3) (fun σ H Q => ∃ v, σ[0]? = some (some v) ∧ spFeed K fk cut [v] H Q E0) := by
        refine fun p1 p2 p3 => ⟨fun pins s1 σ H1 Q I ⟨v, e1, e2⟩ => ?_⟩
        refine wpAny_Call_Name_kw (ld_glob I g1 fi.mg_ ?_ g2)
        exact PySem.W.callWith_K (h₀ := base) I.ok.mod.kin fi.fn.kp (thn ((pa_cons (pe_var v1 v2 v3 v4) pa_nil).run p3 pins s1 σ H1 (fun vs H1 => spFeed K fk cut vs H1 Q E0) I ⟨v, e1, e2⟩) fun us s2 ⟨vs, H2, I2, r, q⟩ => ⟨I2.kIn, run_g ff (room.mono hlv) gd fi.bd I2 r q⟩) rfl rfl
      have hrest : PSs (cxOf L2.CX0 P w K mg base N d.nm (defScope d.st) a cdv A outer s H E).nox rest (fun D σ H => ∃ fa H0s Hs, tS ⟨K, fn, fk, ms⟩ fa H0s Hs (fun _ => none) (exGo fu F b) D σ H) :=
        ⟨fun ps s σ H D I ⟨fa, H0s, Hs, q⟩ => ((std (fa := fa) (F := F) (fu := fu) b).bl H0s Hs _ _ _ rest xo hm).run ps s σ H D I q⟩
      refine ⟨_, pss_cons (ps_set xo.nd l1 l2 (hcall _ _ _) rfl l3) hrest, ?_⟩
      refine ⟨.ref sa, rfl, sa, ns, rfl, hS, fun H' f ca hf hca hmono hn1 hn2 => ?_⟩
      have nfc : ca ≠ f := by rintro rfl; rw [hf] at hca; cases hca
      let H0 : Hp := fun b => if b = ca then H' ca else none
      have hb : Bs ⟨K, fn, fk, ms⟩ (some f) H0 H' := by
        refine ⟨fun b o hb => ?_, fun b hb => ?_⟩
        · have hb : (if b = ca then H' ca else none) = some o := hb
          split at hb
          · rename_i e; rw [e]; exact hb
          · cases hb
        · cases hb
          refine ⟨⟨ca, (), 0, 0, 0, hf, ?_⟩, if_neg nfc.symm⟩
          show (if ca = ca then H' ca else none) = _
          rw [if_pos rfl, hca, ems]
      have hlen : 2 ≤ N.length := by
        have := (List.getElem?_eq_some_iff.mp hN1).1
        omega
      refine ⟨some f, H0, H', H0, none :: some (.dat (feedD ms)) :: List.replicate (N.length - 2) none, ⟨hb, ?_, fun j sv hj => ?_, fun j k d e v hj => ?_⟩, ⟨Ext.refl hb, fun j d a hj => ?_, hb, fun _ _ z => by cases z⟩, (hw ms).mono fun o ho => ?_⟩
      · show ((L2.start N [V.ref sa]).set 1 (some (V.ref f))).length = _
        rw [List.length_set]
        unfold L2.start
        simp only [List.length_append, List.length_map, List.length_replicate, List.length_cons, List.length_nil]
        omega
      · match j, hj with
        | 0, hj => cases hj
        | 1, hj =>
          cases hj
          refine ⟨.ref f, ?_, .feed rfl⟩
          show ((L2.start N [V.ref sa]).set 1 (some (V.ref f)))[1]? = _
          rw [List.getElem?_set_self]
          unfold L2.start
          simp only [List.length_append, List.length_map, List.length_replicate, List.length_cons, List.length_nil]
          omega
        | j + 2, hj =>
          rw [List.getElem?_cons_succ, List.getElem?_cons_succ, List.getElem?_replicate] at hj
          split at hj <;> cases hj
      · match j, hj with
        | 0, hj => cases hj
        | 1, hj => cases hj
        | j + 2, hj =>
          rw [List.getElem?_cons_succ, List.getElem?_cons_succ, List.getElem?_replicate] at hj
          split at hj <;> cases hj
      · match j, hj with
        | 0, hj => cases hj
        | 1, hj => cases hj
        | j + 2, hj =>
          rw [List.getElem?_cons_succ, List.getElem?_cons_succ, List.getElem?_replicate] at hj
          split at hj <;> cases hj
      · cases o with
        | rt v =>
          have ho : v = .bool true := ho
          subst ho
          intro v H0' H'' x r
          cases r
          exact q H''
        | _ => exact ho.elim
    · cases h0
end
end Pf
/-! PfU: the head's facts as one table; the stages of a law. -/
namespace Pf
open PySem PySem.Spec PyProof.Rows L2
/-- how a def binds, by sight -/
def BdOk (d : Dfn) : Prop := ∀ (kV doc pm : Value) (an : Option Addr) (cd ct : Value) (us : List Value), us.length = d.ps.length → bindArgs (PySem.W.fnOf d.nm d.nm (defArgs d.st) (defBody d.st) (defScope d.st) .none kV doc pm an cd ct) ⟨us, []⟩ = pure (d.ps.zip us)
def KbOk (d : Dfn) (q : List Str × List Nat) : Prop := ∀ (kV doc pm : Value) (an : Option Addr) (cd ct : Value) (ws : List Value), ws.length = q.1.length → ∃ zs, q.2.mapM (ws[·]?) = some zs ∧ bindArgs (PySem.W.fnOf d.nm d.nm (defArgs d.st) (defBody d.st) (defScope d.st) .none kV doc pm an cd ct) ⟨[], q.1.zip ws⟩ = pure (d.ps.zip zs)
theorem dfn_in {K : PySem.W.Frag} {h : Heap} {mg : Str → Option Value} {d : Dfn} {f : Addr} {oc kV dc pm cd ct : Value} {od an : Option Addr} {sl : Array (Option Value)} (X : K.In h) (G : h.Ns mainGlobals mg) (hb : BdOk d) (hk : ∀ q ∈ d.kb, KbOk d q)
    (a1 : PySem.W.nsIn K mainGlobals d.nm = some (some (.ref f))) (a2 : K.lookup f = some ⟨oc, od, .func (PySem.W.fnOf d.nm d.nm (defArgs d.st) (defBody d.st) (defScope d.st) .none kV dc pm an cd ct), sl⟩) (a3 : PySem.W.codeIn K cd d.nm = true) (a4 : PySem.W.keepIn K (.ref f) = true) : ∃ fd, DfnIn K mg d f fd := by
  have Fn := fun_mk (st := d.st) a2 a3 a4
  refine ⟨_, Fn, PySem.W.mg_of X G a1, Fn.binds fun kV doc pm an cd ct us hl => hb kV doc pm an cd ct us hl, fun q hq s ws zs _ hl hz => ?_⟩
  obtain ⟨zs', e1, e2⟩ := hk q hq kV dc pm an cd ct ws hl
  rw [hz] at e1
  cases e1
  exact .of_eq e2
/-- the table stands in the heap -/
structure AllAt (K : PySem.W.Frag) (mg : Str → Option Value) (tb : List Dfn) (as : List Addr) : Prop where
  ln : as.length = tb.length
  at_ : ∀ (k : Nat) d, tb[k]? = some d → ∃ a fd, as[k]? = some a ∧ DfnIn K mg d a fd
theorem all_nil {K : PySem.W.Frag} {mg : Str → Option Value} : AllAt K mg [] [] := ⟨rfl, fun k d e => by simp at e⟩
theorem all_cons {K : PySem.W.Frag} {mg : Str → Option Value} {d : Dfn} {a : Addr} {tb : List Dfn} {as : List Addr} (h : ∃ fd, DfnIn K mg d a fd) (t : AllAt K mg tb as) : AllAt K mg (d :: tb) (a :: as) := by
  refine ⟨by rw [List.length_cons, List.length_cons, t.ln], fun k e hk => ?_⟩
  cases k with
  | zero =>
    rw [List.getElem?_cons_zero] at hk
    cases hk
    obtain ⟨fd, h⟩ := h
    exact ⟨a, fd, rfl, h⟩
  | succ k => rw [List.getElem?_cons_succ] at hk ⊢; exact t.at_ k e hk
/-- the built-ins' names are free -/
theorem bn_of {K : PySem.W.Frag} {h : Heap} {mg : Str → Option Value} {bn : List Str} (X : K.In h) (G : h.Ns mainGlobals mg) (hb : ∀ x ∈ bn, PySem.W.nsIn K mainGlobals x = some none) : ∀ x ∈ bn, mg x = none := fun x hx => PySem.W.mg_none_of X G (hb x hx)
def CsAt (K : PySem.W.Frag) (x : Str) (d : D) : Prop := (∃ z t, d = .str z ∧ PySem.W.nsIn K mainGlobals x = some (some (.str z t))) ∨ ∃ i t, d = .int i ∧ PySem.W.nsIn K mainGlobals x = some (some (.int i t))
theorem cs_str {K : PySem.W.Frag} {x z : Str} {t : Tok} (h : PySem.W.nsIn K mainGlobals x = some (some (.str z t))) : CsAt K x (.str z) := .inl ⟨z, t, rfl, h⟩
theorem cs_int {K : PySem.W.Frag} {x : Str} {i : Int} {t : Tok} (h : PySem.W.nsIn K mainGlobals x = some (some (.int i t))) : CsAt K x (.int i) := .inr ⟨i, t, rfl, h⟩
theorem glb_of {K : PySem.W.Frag} {h : Heap} {mg : Str → Option Value} {fn : Nat → Option Addr} {fk : Str × Str × Str × Str} {ns : List Int} {bn : List Str} {cs : List (Str × D)} (X : K.In h) (G : h.Ns mainGlobals mg) (ok : FkOk fk) (hb : ∀ x ∈ bn, PySem.W.nsIn K mainGlobals x = some none) (hc : ∀ p ∈ cs, CsAt K p.1 p.2) : Glb ⟨K, fn, fk, ns⟩ mg bn cs := by
  refine ⟨ok, bn_of X G hb, fun x d hx => ?_⟩
  rcases hc _ hx with ⟨z, t, e, q⟩ | ⟨i, t, e, q⟩
  · dsimp only at e q
    subst e
    exact ⟨_, .str z, PySem.W.mg_of X G q, ⟨t, rfl⟩, fun _ _ => .str z, fun _ z => by cases z⟩
  · dsimp only at e q
    subst e
    exact ⟨_, .int i, PySem.W.mg_of X G q, ⟨t, rfl⟩, fun _ _ => .int i, fun _ z => by cases z⟩
section
variable {P : Program} {w : World} {K : PySem.W.Frag} {mg : Str → Option Value} {base : Heap}
theorem AllAt.stg {tb : List Dfn} {as : List Addr} (A : AllAt K mg tb as) {fk : Str × Str × Str × Str} (ns : List Int) : Stg ⟨K, fun k => as[k]?, fk, ns⟩ tb P w K mg base (fun _ _ => .bad) 0 := by
  refine stg_zero (fun k d e => ?_) fun k a e => ?_
  · obtain ⟨a, fd, h1, h2⟩ := A.at_ k d e
    exact ⟨a, fd, h2, h1⟩
  · have : k < tb.length := by rw [← A.ln]; exact (List.getElem?_eq_some_iff.mp e).1
    exact ⟨tb[k], List.getElem?_eq_getElem this⟩
/-- one def more, by its matched body -/
theorem Stg.next {g : Gc} {tb : List Dfn} {bn : List Str} {cs : List (Str × D)} {F : Nat → List D → M D} {lv : Nat} (S : Stg g tb P w g.K mg base F lv) (G : Glb g mg bn cs) (i : Nat) {d : Dfn} {N : List Str} {b : Sx} (fu : Nat) (hd : tb[i]? = some d) (sc : FnScope N d.ps (defScope d.st)) (hm : mt b (sc0 g.fk tb bn cs N d.st) (.b (defBody d.st)) = true) :
    Stg g tb P w g.K mg base (updF F i (nFn d.ps.length (runD fu N.length F b))) (lv + 1) :=
  S.add hd (fun a fd h _ => fn_body S G rfl fu sc hm h) fun ds Q z => nFn_len z
/-- a def that calls itself, to a depth -/
def itF (F : Nat → List D → M D) (i n m fu : Nat) (b : Sx) : Nat → Nat → List D → M D
  | 0 => F
  | k + 1 => updF (itF F i n m fu b k) i (nFn n (runD fu m (itF F i n m fu b k) b))
theorem Stg.deep {g : Gc} {tb : List Dfn} {bn : List Str} {cs : List (Str × D)} {F : Nat → List D → M D} {lv : Nat} (S : Stg g tb P w g.K mg base F lv) (G : Glb g mg bn cs) (i : Nat) {d : Dfn} {N : List Str} {b : Sx} (fu : Nat) (hd : tb[i]? = some d) (sc : FnScope N d.ps (defScope d.st)) (hm : mt b (sc0 g.fk tb bn cs N d.st) (.b (defBody d.st)) = true) :
    ∀ k, Stg g tb P w g.K mg base (itF F i d.ps.length N.length fu b k) (lv + k)
  | 0 => S
  | k + 1 => (Stg.deep S G i fu hd sc hm k).next G i fu hd sc hm
/-- THE LAW, from its last stage -/
theorem law_of {h : Heap} {fA : Addr} {as : List Addr} {tb : List Dfn} {bn : List Str} {cs : List (Str × D)} {fk : Str × Str × Str × Str} {F : Nat → List D → M D} {lv n kl kf : Nat} {cut : Int} {d df : Dfn} {N : List Str} {b : Sx} {s0 : Stmt} {rest : List Stmt} {f x xf : Str}
    (X : K.In h) (hfa : mg d.nm = some (.ref fA)) (A : AllAt K mg tb as) (G : ∀ ns, Glb ⟨K, fun k => as[k]?, fk, ns⟩ mg bn cs) (hlv : 1 ≤ lv)
    (S : ∀ (B : Heap) (ns : List Int), Stg ⟨K, fun k => as[k]?, fk, ns⟩ tb P w K mg B F lv) (fu : Nat) (hd : tb[kl]? = some d) (hdf : tb[kf]? = some df) (hxf : df.ps = [xf]) (hx1 : (xf == ("__debug__" : Str)) = false) (hx2 : (xf == ("__classdict__" : Str)) = false) (scf : FnScope [xf] [xf] (defScope df.st)) (hbf : isFeed xf fk cut (defBody df.st) = true) (glf : (defScope df.st).names.lookup ("list" : Str) = some .globalImplicit) (hbl : ("list" : Str) ∈ bn)
    (sc : FnScope N d.ps (defScope d.st)) (hps : d.ps = [x]) (bdl : BdOk d) (hN1 : N[1]? = some f) (hB : defBody d.st = s0 :: rest) (h0 : isFst f df.nm x s0 = true) (hv0 : (sc0 fk tb bn cs N d.st).vis 0 x = true) (hl1 : (sc0 fk tb bn cs N d.st).loc 1 f = true) (hgl : (sc0 fk tb bn cs N d.st).gl df.nm = true)
    (hm : mt b (sc0 fk tb bn cs N d.st) (.b rest) = true) (hw : ∀ ns : List Int, WP (exGo fu F b (none :: some (.dat (feedD ns)) :: List.replicate (N.length - 2) none)) fun o => match o with
      | .rt v => v = .bool true
      | _ => False) :
    ∃ (K : PySem.W.Frag) (fd : FuncData) (sp : Sp), K.In h ∧ (∀ (s : Shared) (u : Value), BindsTo s fd ⟨[u], []⟩ [(x, u)]) ∧
      (∀ (H : Hp) (a : Addr) (ns : List Int), ns.length ≤ n → Only H → SqL K H a (ns.map V.int) → sp [.ref a] H (fun v _ => v = .bl true) fun _ _ _ => False) ∧ ∀ B : Heap, K.In B → B.Ns mainGlobals mg → FnG P w K mg B (lv + 1) fA fd [x] sp := by
  obtain ⟨a, fd, e1, i⟩ := A.at_ kl d hd
  obtain ⟨af, ffd, e2, fi⟩ := A.at_ kf df hdf
  have ea := i.mg_
  rw [hfa] at ea
  cases ea
  refine ⟨K, fd, spLaw K n, X, fun s u => ?_, fun H a ns hn _ hS => ⟨a, ns, rfl, hn, hS, fun _ => rfl⟩, fun B kB gB => ?_⟩
  · obtain ⟨oc, od, kV, doc, pm, an, cdv, ct, osl, e, _⟩ := i.fn.ex
    subst e
    have := bdl kV doc pm an cdv ct [u] (by rw [hps]; rfl)
    rw [hps] at this
    exact .of_eq this
  · have ff : FnG P w K mg B 1 af ffd df.ps (spFeed K fk cut) := fn_feed fi hxf hx1 hx2 scf hbf (G []).fko ((G []).bn _ hbl) glf
    have := fn_law (n := n) (S B) G hlv fu sc hps hN1 hB h0 hv0 hl1 hgl fi (by rw [hxf]; rfl) ff hm hw i
    rw [hps] at this
    exact this
end
end Pf
/-! PfV: small facts for the plain side. -/
namespace Pf
open PySem
theorem b_ret {α β : Type} (a : α) (f : α → M β) : (M.ret a).bind f = f a := rfl
theorem b_bad {α β : Type} (f : α → M β) : (M.bad : M α).bind f = .bad := rfl
theorem b_any {α β : Type} (k : Int → M α) (f : α → M β) : (M.any k).bind f = .any fun n => (k n).bind f := rfl
theorem need_if {α : Type} {c : Bool} {m : M α} (h : c = true) : need c m = m := need_of h
/-- a comprehension whose test and element are plain -/
theorem lcGo_eq {b : D → M Ev} {t : Ev → M Bool} {e : Ev → M D} {p : D → Bool} {f : D → D} : ∀ (ds : List D), (∀ d ∈ ds, ∃ ρ, b d = .ret ρ ∧ t ρ = .ret (p d) ∧ (p d = true → e ρ = .ret (f d))) → lcGo b t e ds = .ret ((ds.filter p).map f)
  | [], _ => rfl
  | d :: r, h => by
    obtain ⟨ρ, h1, h2, h3⟩ := h d List.mem_cons_self
    have ih := lcGo_eq (p := p) (f := f) r fun x hx => h x (List.mem_cons_of_mem _ hx)
    unfold lcGo
    rw [h1, b_ret, h2, b_ret]
    cases hp : p d with
    | true => rw [if_pos rfl, h3 hp, b_ret, ih, b_ret, List.filter_cons_of_pos hp]; rfl
    | false => rw [if_neg (by intro z; cases z), ih, List.filter_cons_of_neg (by rw [hp]; intro z; cases z)]
theorem lcGo_map {b : D → M Ev} {t : Ev → M Bool} {e : Ev → M D} {f : D → D} (ds : List D) (h : ∀ d ∈ ds, ∃ ρ, b d = .ret ρ ∧ t ρ = .ret true ∧ e ρ = .ret (f d)) : lcGo b t e ds = .ret (ds.map f) := by
  have := lcGo_eq (b := b) (t := t) (e := e) (p := fun _ => true) (f := f) ds fun d hd => let ⟨ρ, h1, h2, h3⟩ := h d hd; ⟨ρ, h1, h2, fun _ => h3⟩
  rw [this]
  congr 2
  exact List.filter_eq_self.mpr fun _ _ => rfl
theorem lcGo_flt {b : D → M Ev} {t : Ev → M Bool} {e : Ev → M D} {p : D → Bool} (ds : List D) (h : ∀ d ∈ ds, ∃ ρ, b d = .ret ρ ∧ t ρ = .ret (p d) ∧ e ρ = .ret d) : lcGo b t e ds = .ret (ds.filter p) := by
  have := lcGo_eq (b := b) (t := t) (e := e) (p := p) (f := id) ds fun d hd => let ⟨ρ, h1, h2, h3⟩ := h d hd; ⟨ρ, h1, h2, fun _ => h3⟩
  rw [this, List.map_id]
theorem flt_nil {α : Type} (p : α → Bool) (xs : List α) : (xs.filter fun x => !p x).isEmpty = xs.all p := by
  induction xs with
  | nil => rfl
  | cons x r ih =>
    cases h : p x with
    | true => rw [List.filter_cons_of_neg (by simp [h]), ih, List.all_cons, h]; rfl
    | false => rw [List.filter_cons_of_pos (by simp [h]), List.all_cons, h]; rfl
theorem boolsOf_map {α : Type} (f : α → Bool) : ∀ xs : List α, boolsOf (xs.map fun x => .bool (f x)) = some (xs.map f)
  | [] => rfl
  | x :: r => by show (boolsOf (r.map fun x => .bool (f x))).map (f x :: ·) = _; rw [boolsOf_map f r]; rfl
theorem all_id {α : Type} (f : α → Bool) (xs : List α) : ((xs.map f).all id) = xs.all f := by rw [List.all_map]; rfl
/-- [..] == [] -/
theorem eqv_nil (xs : List D) : PyData.eqv (.list xs) (.list []) = xs.isEmpty := by cases xs <;> simp [PyData.eqv, PyData.eqvAll]
theorem shaped_nil : SeqAt.shaped (.list []) = true := by decide


theorem c_lt (a b : Int) : cmp2 .lt (.int a) (.int b) = .ret (.bool (decide (a < b))) := rfl
theorem c_le (a b : Int) : cmp2 .le (.int a) (.int b) = .ret (.bool (decide (a ≤ b))) := rfl
theorem c_gt (a b : Int) : cmp2 .gt (.int a) (.int b) = .ret (.bool (decide (b < a))) := rfl
theorem c_ge (a b : Int) : cmp2 .ge (.int a) (.int b) = .ret (.bool (decide (b ≤ a))) := rfl
theorem c_ltS (a b : Str) : cmp2 .lt (.str a) (.str b) = .ret (.bool (decide (a.cps.toList < b.cps.toList))) := rfl
theorem c_geS (a b : Str) : cmp2 .ge (.str a) (.str b) = .ret (.bool (!decide (a.cps.toList < b.cps.toList))) := rfl
theorem c_eq (a b : D) : cmp2 .eq a b = need (eqOk a b) (.ret (.bool (PyData.eqv a b))) := by cases a <;> cases b <;> rfl
theorem c_ne (a b : D) : cmp2 .ne a b = need (eqOk a b) (.ret (.bool (!PyData.eqv a b))) := by cases a <;> cases b <;> rfl
theorem k_l (a : List D) (b : D) : eqOk (.list a) b = (SeqAt.shaped (.list a) && SeqAt.shaped b) := by cases b <;> rfl
theorem k_i (a : Int) (b : D) : eqOk (.int a) b = (SeqAt.shaped (.int a) && SeqAt.shaped b) := by cases b <;> rfl
theorem k_rt (a : D) (b : List D) : eqOk a (.tuple b) = (SeqAt.shaped a && SeqAt.shaped (.tuple b)) := by cases a <;> rfl
theorem k_sh {a b : D} (h1 : SeqAt.shaped a = true) (h2 : SeqAt.shaped b = true) : eqOk a b = true := by
  unfold eqOk
  split
  · rfl
  · rw [h1, h2]; rfl
theorem c_inS (a b : Str) : cmp2 .isin (.str a) (.str b) = need (decide (a.length = 1)) (.ret (.bool (decide (a.cps.toList.headD 0 ∈ b.cps.toList)))) := rfl
theorem c_niT (a : D) (b : List D) : cmp2 .notin a (.tuple b) = need (SeqAt.shaped a && SeqAt.shaped (.tuple b)) (.ret (.bool (!b.any fun z => PyData.eqv z a))) := by cases a <;> rfl
theorem c_niL (a : D) (b : List D) : cmp2 .notin a (.list b) = need (SeqAt.shaped a && SeqAt.shaped (.list b)) (.ret (.bool (!b.any fun z => PyData.eqv z a))) := by cases a <;> rfl
theorem c_inL (a : D) (b : List D) : cmp2 .isin a (.list b) = need (SeqAt.shaped a && SeqAt.shaped (.list b)) (.ret (.bool (b.any fun z => PyData.eqv z a))) := by cases a <;> rfl
theorem l_lst (a : List D) : bi1 .len (.list a) = .ret (.int a.length) := rfl
theorem l_tup (a : List D) : bi1 .len (.tuple a) = .ret (.int a.length) := rfl
theorem l_str (a : Str) : bi1 .len (.str a) = need (decide (a.length ≤ sizeLine)) (.ret (.int a.length)) := rfl
theorem b_all (a : List D) : bi1 .all (.list a) = (match boolsOf a with
    | some bs => .ret (.bool (bs.all id))
    | none => .bad) := rfl
theorem b_ord (a : Str) : bi1 .ord (.str a) = need (decide (a.length = 1)) (.ret (.int (a.cps.toList.headD 0 : Nat))) := rfl
theorem b_repr (a : D) : bi1 .repr a = need (a.showable && SeqAt.shaped a && decide (a.shown.length ≤ sizeLine)) (.ret (.str a.shown)) := by cases a <;> rfl
theorem t_b (b : Bool) : truD (.bool b) = .ret b := rfl
theorem bo_b (b : Bool) : boolD (.bool b) = .ret b := rfl
theorem in_i (i : Int) : intD (.int i) = .ret i := rfl
theorem ls_l (a : List D) : lstD (.list a) = .ret a := rfl
theorem it_l (a : List D) : itmD (.list a) = .ret a := rfl
theorem it_t (a : List D) : itmD (.tuple a) = .ret a := rfl
theorem it_s (a : Str) : itmD (.str a) = need (decide (a.cps.toList.length ≤ sizeLine)) (.ret (a.cps.toList.map fun c => .str ⟨#[c]⟩)) := rfl
theorem b_assoc {α β γ : Type} (f : α → M β) (k : β → M γ) : ∀ m : M α, (m.bind f).bind k = m.bind fun a => (f a).bind k
  | .ret _ => rfl
  | .bad => rfl
  | .draw n h => by show M.draw n (fun r => ((h r).bind f).bind k) = M.draw n fun r => (h r).bind fun a => (f a).bind k; congr 1; funext r; exact b_assoc f k (h r)
  | .any h => by show M.any (fun r => ((h r).bind f).bind k) = M.any fun r => (h r).bind fun a => (f a).bind k; congr 1; funext r; exact b_assoc f k (h r)
theorem b_id {α : Type} : ∀ m : M α, m.bind M.ret = m
  | .ret _ => rfl
  | .bad => rfl
  | .draw n h => by show M.draw n (fun r => (h r).bind M.ret) = _; congr 1; funext r; exact b_id (h r)
  | .any h => by show M.any (fun r => (h r).bind M.ret) = _; congr 1; funext r; exact b_id (h r)
/-- a def of one return -/
theorem run_ret {fu n : Nat} {F : Nat → List D → M D} {e : Sx} {ds : List D} : runD fu n F (.cons (.ret e) .nil) ds = rdv e (ev F e) (ev0 n ds) := by
  show ((((rdv e (ev F e) (ev0 n ds)).bind fun d => M.ret (Out.rt d)).bind _).bind _) = _
  rw [b_assoc, b_assoc]
  exact b_id _
theorem lc_flt {F : Nat → List D → M D} {own : List Nat} {tg it cd elt : Sx} {ρ : Ev} {ds : List D} {p : D → Bool} (hit : itmv it (ev F it) ρ = .ret ds) (ho : datOnly ρ own = true) (h : ∀ d ∈ ds, ∃ ρ', tgt tg d (wip ρ own) = .ret ρ' ∧ tst cd (ev F cd) ρ' = .ret (p d) ∧ ev F elt ρ' = .ret d) : ev F (.lc own tg it cd elt) ρ = .ret (.list (ds.filter p)) := by
  show ((itmv it (ev F it) ρ).bind fun ds => need (datOnly ρ own) ((lcGo (fun d => tgt tg d (wip ρ own)) (tst cd (ev F cd)) (ev F elt) ds).bind fun ys => M.ret (PyData.list ys))) = _
  rw [hit, b_ret, ho, need_true, lcGo_flt ds h, b_ret]
theorem lc_map {F : Nat → List D → M D} {own : List Nat} {tg it cd elt : Sx} {ρ : Ev} {ds : List D} {f : D → D} (hit : itmv it (ev F it) ρ = .ret ds) (ho : datOnly ρ own = true) (h : ∀ d ∈ ds, ∃ ρ', tgt tg d (wip ρ own) = .ret ρ' ∧ tst cd (ev F cd) ρ' = .ret true ∧ ev F elt ρ' = .ret (f d)) : ev F (.lc own tg it cd elt) ρ = .ret (.list (ds.map f)) := by
  show ((itmv it (ev F it) ρ).bind fun ds => need (datOnly ρ own) ((lcGo (fun d => tgt tg d (wip ρ own)) (tst cd (ev F cd)) (ev F elt) ds).bind fun ys => M.ret (PyData.list ys))) = _
  rw [hit, b_ret, ho, need_true, lcGo_map ds h, b_ret]
theorem ev_and {F : Nat → List D → M D} {a b : Sx} {ρ : Ev} {x : Bool} (h : ev F a ρ = .ret (.bool x)) : ev F (.and a b) ρ = if x = true then ev F b ρ else .ret (.bool false) := by
  show ((ev F a ρ).bind fun x => (truD x).bind fun k => if k = true then ev F b ρ else M.ret x) = _
  rw [h, b_ret, t_b, b_ret]
  cases x <;> rfl
theorem ev_or {F : Nat → List D → M D} {a b : Sx} {ρ : Ev} {x : Bool} (h : ev F a ρ = .ret (.bool x)) : ev F (.or a b) ρ = if x = true then .ret (.bool true) else ev F b ρ := by
  show ((ev F a ρ).bind fun x => (truD x).bind fun k => if k = true then M.ret x else ev F b ρ) = _
  rw [h, b_ret, t_b, b_ret]
  cases x <;> rfl
theorem ev_nt {F : Nat → List D → M D} {a : Sx} {ρ : Ev} {x : Bool} (ht : tst a (ev F a) = fun ρ => (ev F a ρ).bind truD) (h : ev F a ρ = .ret (.bool x)) : ev F (.nt a) ρ = .ret (.bool !x) := by
  show ((tst a (ev F a) ρ).bind fun k => M.ret (PyData.bool !k)) = _
  rw [ht]
  dsimp only
  rw [h, b_ret, t_b, b_ret]
theorem ev_call1 {F : Nat → List D → M D} {k : Nat} {e : Sx} {ρ : Ev} {d : D} (h : ev F e ρ = .ret d) : ev F (.call k (.cons e .nil)) ρ = F k [d] := by
  show (((ev F e ρ).bind fun d => (M.ret (PyData.list [])).bind fun x => (lstD x).bind fun ds => M.ret (PyData.list (d :: ds))).bind fun x => (lstD x).bind fun ds => F k ds) = _
  rw [h]
  rfl
/-- if c: return a -/
theorem run_if {fu n : Nat} {F : Nat → List D → M D} {c a r : Sx} {ds : List D} {x : Bool} (h : tst c (ev F c) (ev0 n ds) = .ret x) : runD fu n F (.cons (.iff c (.cons (.ret a) .nil) .nil) r) ds = if x = true then rdv a (ev F a) (ev0 n ds) else runD fu n F r ds := by
  show (((((tst c (ev F c) (ev0 n ds)).bind fun k => if k = true then exGo fu F (.cons (.ret a) .nil) (ev0 n ds) else exGo fu F .nil (ev0 n ds)).bind _).bind _)) = _
  rw [h, b_ret]
  cases x with
  | true =>
    rw [if_pos rfl, if_pos rfl]
    show (((((rdv a (ev F a) (ev0 n ds)).bind fun d => M.ret (Out.rt d)).bind _).bind _).bind _) = _
    rw [b_assoc, b_assoc, b_assoc]
    exact b_id _
  | false => rfl
theorem p62 : (2 : Int) ^ 62 = 4611686018427387904 := by decide
theorem rng2_eq {F : Nat → List D → M D} {a b : Sx} {ρ : Ev} {i j : Int} (h1 : ev F a ρ = .ret (.int i)) (h2 : ev F b ρ = .ret (.int j)) (hi : 0 ≤ i ∧ i ≤ 1000000) (hj : 0 ≤ j ∧ j ≤ 1000000) : ev F (.rng2 a b) ρ = .ret (.list (intR i (j - i).toNat)) := by
  show ((ev F a ρ).bind fun x => (ev F b ρ).bind fun y => (intD x).bind fun i => (intD y).bind fun j => need (decide (-(2 ^ 62) ≤ i ∧ i < 2 ^ 62 ∧ -(2 ^ 62) ≤ j ∧ j < 2 ^ 62 ∧ j - i ≤ 1000000)) (M.ret (PyData.list (intR i (j - i).toNat)))) = _
  rw [h1, h2, b_ret, b_ret, in_i, in_i, b_ret, b_ret, need_of]
  rw [p62]
  exact decide_eq_true (by omega)
theorem rng1_eq {F : Nat → List D → M D} {a : Sx} {ρ : Ev} {i : Int} (h1 : ev F a ρ = .ret (.int i)) (hi : 0 ≤ i ∧ i ≤ 1000000) : ev F (.rng1 a) ρ = .ret (.list (intR 0 i.toNat)) := by
  show ((ev F a ρ).bind fun x => (intD x).bind fun i => need (decide (-(2 ^ 62) ≤ i ∧ i ≤ 1000000)) (M.ret (PyData.list (intR 0 i.toNat)))) = _
  rw [h1, b_ret, in_i, b_ret, need_of]
  rw [p62]
  exact decide_eq_true (by omega)
/-! ### tame data -/
structure Gd (d : D) : Prop where
  lay : d.canLay0 = true
  dep : d.depth ≤ 40
  wt : d.weight ≤ 500000
theorem lay_mem {xs : List D} (h : PyData.canLayAll0 xs = true) : ∀ d ∈ xs, d.canLay0 = true := by
  induction xs with
  | nil => intro d hd; cases hd
  | cons x r ih =>
    simp only [PyData.canLayAll0, Bool.and_eq_true] at h
    intro d hd
    rcases List.mem_cons.mp hd with e | hd
    · rw [e]; exact h.1
    · exact ih h.2 d hd
theorem lay_of {xs : List D} (h : ∀ d ∈ xs, d.canLay0 = true) : PyData.canLayAll0 xs = true := by
  induction xs with
  | nil => rfl
  | cons x r ih =>
    simp only [PyData.canLayAll0, Bool.and_eq_true]
    exact ⟨h x List.mem_cons_self, ih fun d hd => h d (List.mem_cons_of_mem _ hd)⟩
theorem dep_mem {xs : List D} : ∀ d ∈ xs, d.depth ≤ PyData.depthAll xs := by
  induction xs with
  | nil => intro d hd; cases hd
  | cons x r ih =>
    intro d hd
    unfold PyData.depthAll
    rcases List.mem_cons.mp hd with e | hd
    · rw [e]; exact Nat.le_max_left _ _
    · exact Nat.le_trans (ih d hd) (Nat.le_max_right _ _)
theorem dep_of {xs : List D} {n : Nat} (h : ∀ d ∈ xs, d.depth ≤ n) : PyData.depthAll xs ≤ n := by
  induction xs with
  | nil => exact Nat.zero_le _
  | cons x r ih =>
    unfold PyData.depthAll
    exact Nat.max_le.mpr ⟨h x List.mem_cons_self, ih fun d hd => h d (List.mem_cons_of_mem _ hd)⟩
theorem wt_mem {xs : List D} : ∀ d ∈ xs, d.weight ≤ PyData.weightAll xs := by
  induction xs with
  | nil => intro d hd; cases hd
  | cons x r ih =>
    intro d hd
    unfold PyData.weightAll
    rcases List.mem_cons.mp hd with e | hd
    · rw [e]; omega
    · have := ih d hd; omega
theorem wt_len (xs : List D) : xs.length ≤ PyData.weightAll xs := by
  induction xs with
  | nil => exact Nat.zero_le _
  | cons x r ih => unfold PyData.weightAll; rw [List.length_cons]; omega
theorem Gd.tup {xs : List D} (h : Gd (.tuple xs)) : ∀ d ∈ xs, Gd d := fun d hd => by
  have h1 := h.lay; have h2 := h.dep; have h3 := h.wt
  simp only [PyData.canLay0, PyData.depth, PyData.weight] at h1 h2 h3
  exact ⟨lay_mem h1 d hd, by have := dep_mem d hd; omega, by have := wt_mem d hd; omega⟩
theorem Gd.len {xs : List D} (h : Gd (.tuple xs)) : xs.length ≤ 500000 := by
  have h3 := h.wt
  simp only [PyData.weight] at h3
  have := wt_len xs
  omega
theorem Gd.plain {d : D} (h : Gd d) : plainD d = true := by
  cases d <;> first | rfl | (have := h.lay; simp [PyData.canLay0] at this)
theorem Gd.sh {d : D} (h : Gd d) : SeqAt.shaped d = true := by
  unfold SeqAt.shaped
  rw [h.lay, decide_eq_true (by have := h.dep; omega)]
  rfl
theorem Gd.shL {xs : List D} (h : ∀ d ∈ xs, Gd d) : SeqAt.shaped (.list xs) = true := by
  have h1 : (PyData.list xs).canLay0 = true := by simp only [PyData.canLay0]; exact lay_of fun d hd => (h d hd).lay
  have h2 : (PyData.list xs).depth ≤ 64 := by
    simp only [PyData.depth]
    have := dep_of fun d hd => (h d hd).dep
    omega
  unfold SeqAt.shaped
  rw [h1, decide_eq_true h2]
  rfl
theorem Gd.strL {a : Str} (h : Gd (.str a)) : a.length ≤ sizeLine := by
  have := h.wt
  simp only [PyData.weight] at this
  rw [sizeLine_eq]
  show a.cps.size ≤ _
  omega
theorem Gd.chr {a : Str} (h : Gd (.str a)) : ∀ c ∈ a.cps.toList, Gd (.str ⟨#[c]⟩) := fun c hc => by
  refine ⟨?_, Nat.zero_le _, by simp [PyData.weight]⟩
  have := h.lay
  simp only [PyData.canLay0, PyData.strOk, Array.all_eq_true'] at this ⊢
  intro x hx
  simp at hx
  subst hx
  exact this x (by simpa using hc)
end Pf
/-! PfW: the plain side by WP. -/
namespace Pf
open PySem
theorem wp_b {α β : Type} {Q : β → Prop} {R : α → Prop} {f : α → M β} {m : M α} (h : WP m R) (k : ∀ a, R a → WP (f a) Q) : WP (m.bind f) Q := WP.bind.mpr (h.mono k)
theorem wp_eq {α : Type} {m : M α} {a : α} {Q : α → Prop} (e : m = .ret a) (h : Q a) : WP m Q := by rw [e]; exact h
theorem wp_any {α : Type} {k : Int → M α} {Q : α → Prop} (h : ∀ n, WP (k n) Q) : WP (.any k) Q := h
theorem wp_nd {α : Type} {c : Bool} {m : M α} {Q : α → Prop} (h : c = true) (w : WP m Q) : WP (need c m) Q := by rw [need_of h]; exact w

/-! ### the usual draw -/
def drawA (c59 C1 C2 C3 C4 C5 C6 C7 C8 C9 C10 : Int) : Sx := (.cons (.fput 0 3 (.bin .add (.fld 0 3) (.cst (.int 1))))
    (.cons (.iff (.cmp .gt (.fld 0 2) (.cst (.int 0))) (.cons (.asg (.var 2) (.bin .mod (.bi .int (.fld 0 2)) (.var 1)))
    (.cons (.fput 0 2 (.bin .fdiv (.fld 0 2) (.var 1)))
    (.cons (.ret (.var 2))
    .nil))) .nil)
    (.cons (.asg (.var 3) (.fld 0 1))
    (.cons (.fput 0 1 (.bin .add (.var 3) (.cst (.int 1))))
    (.cons (.asg (.var 4) (.ifx (.cmp .ne (.fcl 0) (.lst .nil)) (.idx (.fcl 0) (.bin .mod (.bi .int (.var 3)) (.bi .len (.fcl 0)))) (.cst (.int c59))))
    (.cons (.iff (.and (.cmp .ge (.var 4) (.bin .pow (.cst (.int 10)) (.cst (.int 18)))) (.cmp .lt (.var 3) (.bi .len (.fcl 0)))) (.cons (.fput 0 2 (.bin .fdiv (.var 4) (.var 1)))
    (.cons (.ret (.bin .mod (.bi .int (.var 4)) (.var 1)))
    .nil)) .nil)
    (.cons (.asg (.var 5) (.bin .mod (.bi .int (.bin .add (.bin .add (.bin .mod (.bi .int (.var 4)) (.cst (.int C1))) (.bin .mul (.cst (.int C2)) (.fld 0 3))) (.cst (.int C3)))) (.cst (.int C4))))
    (.cons (.asg (.var 5) (.bin .mod (.bi .int (.bin .add (.bin .add (.bin .mul (.var 5) (.var 5)) (.bin .mul (.cst (.int C5)) (.fld 0 3))) (.cst (.int C6)))) (.cst (.int C7))))
    (.cons (.ret (.bin .mod (.bi .int (.bin .fdiv (.bin .mod (.bi .int (.bin .add (.bin .mul (.var 5) (.var 5)) (.bin .mul (.cst (.int C8)) (.var 5)))) (.cst (.int C9))) (.cst (.int C10)))) (.var 1)))
    .nil)))))))))
theorem fm (a : Int) {n : Nat} (h : 0 < n) : ∃ r : Nat, r < n ∧ a.fmod n = (r : Int) := by
  have h1 : 0 ≤ a.fmod n := Int.fmod_nonneg_of_pos a (by omega)
  have h2 : a.fmod n < n := Int.fmod_lt_of_pos a (by omega)
  exact ⟨(a.fmod n).toNat, by omega, by omega⟩
/-- a feed's draw answers below n -/
def DrawOk (f : List D → M D) : Prop := ∀ (ns : List Int) (n : Nat), 0 < n → n < 1073741824 → WP (f [feedD ns, .int n]) fun d => ∃ r : Nat, r < n ∧ d = .int r
end Pf
namespace Pf
open PySem
theorem op_add (a b : Int) : op2 .add (.int a) (.int b) = .ret (.int (a + b)) := rfl
theorem bi_int (a : Int) : bi1 .int (.int a) = .ret (.int a) := rfl
theorem op_mod (a b : Int) : op2 .mod (.int a) (.int b) = need (decide (b ≠ 0)) (.ret (.int (a.fmod b))) := rfl
theorem op_fdiv (a b : Int) : op2 .fdiv (.int a) (.int b) = need (decide (b ≠ 0 ∧ b.natAbs < 1073741824)) (.ret (.int (a.fdiv b))) := rfl
theorem cl_f (ns : List Int) : cellsOf (feedD ns) = .ret (ns.map .int) := rfl
theorem pw18 : op2 .pow (.int 10) (.int 18) = .ret (.int 1000000000000000000) := by rfl
theorem op_mul (a b : Int) (h : -18446744073709551616 < a ∧ a < 18446744073709551616) : op2 .mul (.int a) (.int b) = .ret (.int (a * b)) := by
  show need (decide (-(2 ^ 64) < a ∧ a < 2 ^ 64)) (M.ret (PyData.int (a * b))) = _
  rw [show (2 : Int) ^ 64 = 18446744073709551616 by decide, need_of (decide_eq_true h)]
theorem op_modN (a b : Int) (h : b ≠ 0) : op2 .mod (.int a) (.int b) = .ret (.int (a.fmod b)) := by
  rw [op_mod, need_of (decide_eq_true h)]
theorem op_divN (a b : Int) (h : b ≠ 0 ∧ b.natAbs < 1073741824) : op2 .fdiv (.int a) (.int b) = .ret (.int (a.fdiv b)) := by
  rw [op_fdiv, need_of (decide_eq_true h)]
theorem sh_ints (ns : List Int) : SeqAt.shaped (.list (ns.map .int)) = true := by
  have h1 : (PyData.list (ns.map .int)).canLay0 = true := by
    simp only [PyData.canLay0]
    exact lay_of fun d hd => by obtain ⟨i, _, rfl⟩ := List.mem_map.mp hd; rfl
  have h2 : (PyData.list (ns.map .int)).depth ≤ 64 := by
    simp only [PyData.depth]
    have := dep_of (n := 0) (xs := ns.map .int) fun d hd => by obtain ⟨i, _, rfl⟩ := List.mem_map.mp hd; simp [PyData.depth]
    omega
  unfold SeqAt.shaped
  rw [h1, decide_eq_true h2]
  rfl
theorem ix_inL {ds : List D} {i : Nat} {x : D} (h : ds[i]? = some x) : idx2 (.list ds) (.int (i : Int)) = .ret x := by
  have hi : i < ds.length := (List.getElem?_eq_some_iff.mp h).1
  have e : (ixAt ds.length (i : Int)).bind (ds[·]?) = some x := by
    have : ixAt ds.length (i : Int) = some i := by
      unfold ixAt L2.ixN
      simp [hi]
      try omega
    rw [this]
    exact h
  unfold idx2
  simp only [e]
theorem cell_ok (ns : List Int) (z : Int) (c59 : Int) : ∃ c : Int, (if (!(ns.map PyData.int).isEmpty) = true then (op2 .mod (.int z) (.int ((ns.map PyData.int).length : Nat))).bind fun y => idx2 (.list (ns.map .int)) y else .ret (.int c59)) = .ret (.int c) := by
  cases ns with
  | nil => exact ⟨c59, rfl⟩
  | cons x r =>
    have hl : 0 < ((x :: r).map PyData.int).length := by simp
    obtain ⟨k, hk, e⟩ := fm z hl
    have hk' : k < (x :: r).length := by simpa using hk
    refine ⟨(x :: r)[k], ?_⟩
    have hg : ((x :: r).map PyData.int)[k]? = some (.int (x :: r)[k]) := by rw [List.getElem?_map, List.getElem?_eq_getElem hk']; rfl
    rw [if_pos (by simp), op_mod, need_of (decide_eq_true (by omega)), b_ret, e]
    exact ix_inL hg
theorem wp_drawA {fu : Nat} {F : Nat → List D → M D} {c59 C1 C2 C3 C4 C5 C6 C7 C8 C9 C10 : Int} (k1 : C1 ≠ 0) (k2 : -18446744073709551616 < C2 ∧ C2 < 18446744073709551616) (k4 : 0 < C4 ∧ C4 < 18446744073709551616) (k5 : -18446744073709551616 < C5 ∧ C5 < 18446744073709551616) (k7 : 0 < C7 ∧ C7 < 18446744073709551616) (k8 : -18446744073709551616 < C8 ∧ C8 < 18446744073709551616) (k9 : C9 ≠ 0) (k10 : C10 ≠ 0 ∧ C10.natAbs < 1073741824) : DrawOk (runD fu 6 F (drawA c59 C1 C2 C3 C4 C5 C6 C7 C8 C9 C10)) := by
  intro ns n h0 h1
  have hn : (n : Int) ≠ 0 := by omega
  have hn2 : (n : Int).natAbs < 1073741824 := by omega
  unfold runD drawA
  simp only [exGo, ev, rdv, tst, ev0, gs, gr, cl_f, b_ret, b_any, b_assoc, in_i, op_add, bi_int, op_mod, op_fdiv, c_gt, t_b, List.map, List.append, List.replicate, List.length_cons, List.length_nil, List.cons_append, List.nil_append, List.getElem?_cons_zero, List.getElem?_cons_succ]
  refine wp_any fun z1 => ?_
  refine wp_any fun z2 => ?_
  by_cases hz : 0 < z2
  · simp only [decide_eq_true hz, if_true, SV.d, op_mod, op_fdiv, tgt, put, cl_f, in_i, b_ret, b_any, need, decide_eq_true hn, decide_eq_true (And.intro hn hn2), List.set, List.getElem?_cons_zero, List.getElem?_cons_succ]
    refine wp_any fun z3 => ?_
    refine wp_any fun z4 => ?_
    obtain ⟨r, hr, e⟩ := fm z3 h0
    exact ⟨r, hr, by rw [e]⟩
  · have hz' : decide (0 < z2) = false := decide_eq_false hz
    simp only [hz', SV.d, op_add, tgt, put, cl_f, in_i, b_ret, b_any, List.set, List.getElem?_cons_zero, List.getElem?_cons_succ, if_false, Bool.false_eq_true]
    refine wp_any fun z3 => ?_
    obtain ⟨c, hc⟩ := cell_ok ns z3 c59
    have hsz : decide (([] : List D).length ≤ sizeLine) = true := by rw [sizeLine_eq]; rfl
    simp only [ls_l, b_ret, hsz, need_true, c_ne, k_l, sh_ints, shaped_nil, Bool.and_self, eqv_nil, t_b, bi_int, l_lst, hc, pw18, c_ge]
    have tail : ∀ ρ : Ev, ρ = [some (SV.dat (feedD ns)), some (SV.dat (.int n)), none, some (.dat (.int z3)), some (.dat (.int c)), none] → True := fun _ _ => trivial
    by_cases hb : 1000000000000000000 ≤ c
    · simp only [decide_eq_true hb, if_true, c_lt, b_ret, t_b]
      by_cases hl : z3 < ((ns.map PyData.int).length : Nat)
      · simp only [decide_eq_true hl, if_true, b_ret, op_divN _ _ (And.intro hn hn2), in_i, op_modN _ _ hn]
        obtain ⟨r, hr, e⟩ := fm c h0
        exact ⟨r, hr, by rw [e]⟩
      · simp only [decide_eq_false hl, if_false, Bool.false_eq_true, b_ret, t_b, List.getElem?_cons_zero, List.getElem?_cons_succ, bi_int, op_modN _ _ k1, cl_f, b_any, op_mul _ _ k2, op_add]
        refine wp_any fun z4 => ?_
        have k4' : C4 ≠ 0 := by omega
        have k7' : C7 ≠ 0 := by omega
        have b4 := Int.fmod_nonneg_of_pos (c.fmod C1 + C2 * z4 + C3) k4.1
        have b4' := Int.fmod_lt_of_pos (c.fmod C1 + C2 * z4 + C3) k4.1
        rw [op_modN _ _ k4']
        generalize (c.fmod C1 + C2 * z4 + C3).fmod C4 = m at b4 b4' ⊢
        have bm : -18446744073709551616 < m ∧ m < 18446744073709551616 := by omega
        simp only [b_ret, List.set, List.getElem?_cons_zero, List.getElem?_cons_succ, op_mul _ _ bm, op_mul _ _ k5, cl_f, b_any, op_add, bi_int]
        refine wp_any fun z5 => ?_
        have b7 := Int.fmod_nonneg_of_pos (m * m + C5 * z5 + C6) k7.1
        have b7' := Int.fmod_lt_of_pos (m * m + C5 * z5 + C6) k7.1
        rw [op_modN _ _ k7']
        generalize (m * m + C5 * z5 + C6).fmod C7 = m2 at b7 b7' ⊢
        have bm2 : -18446744073709551616 < m2 ∧ m2 < 18446744073709551616 := by omega
        simp only [b_ret, List.set, List.getElem?_cons_zero, List.getElem?_cons_succ, op_mul _ _ bm2, op_mul _ _ k8, op_add, bi_int, op_modN _ _ k9, op_divN _ _ k10, op_modN _ _ hn]
        obtain ⟨r, hr, e⟩ := fm (((m2 * m2 + C8 * m2).fmod C9).fdiv C10) h0
        exact ⟨r, hr, by rw [e]⟩
    · simp only [decide_eq_false hb, if_false, Bool.false_eq_true, b_ret, t_b, List.getElem?_cons_zero, List.getElem?_cons_succ, bi_int, op_modN _ _ k1, cl_f, b_any, op_mul _ _ k2, op_add]
      refine wp_any fun z4 => ?_
      have k4' : C4 ≠ 0 := by omega
      have k7' : C7 ≠ 0 := by omega
      have b4 := Int.fmod_nonneg_of_pos (c.fmod C1 + C2 * z4 + C3) k4.1
      have b4' := Int.fmod_lt_of_pos (c.fmod C1 + C2 * z4 + C3) k4.1
      rw [op_modN _ _ k4']
      generalize (c.fmod C1 + C2 * z4 + C3).fmod C4 = m at b4 b4' ⊢
      have bm : -18446744073709551616 < m ∧ m < 18446744073709551616 := by omega
      simp only [b_ret, List.set, List.getElem?_cons_zero, List.getElem?_cons_succ, op_mul _ _ bm, op_mul _ _ k5, cl_f, b_any, op_add, bi_int]
      refine wp_any fun z5 => ?_
      have b7 := Int.fmod_nonneg_of_pos (m * m + C5 * z5 + C6) k7.1
      have b7' := Int.fmod_lt_of_pos (m * m + C5 * z5 + C6) k7.1
      rw [op_modN _ _ k7']
      generalize (m * m + C5 * z5 + C6).fmod C7 = m2 at b7 b7' ⊢
      have bm2 : -18446744073709551616 < m2 ∧ m2 < 18446744073709551616 := by omega
      simp only [b_ret, List.set, List.getElem?_cons_zero, List.getElem?_cons_succ, op_mul _ _ bm2, op_mul _ _ k8, op_add, bi_int, op_modN _ _ k9, op_divN _ _ k10, op_modN _ _ hn]
      obtain ⟨r, hr, e⟩ := fm (((m2 * m2 + C8 * m2).fmod C9).fdiv C10) h0
      exact ⟨r, hr, by rw [e]⟩
end Pf
/-! PfY: a for by an invariant over what is left. -/
namespace Pf
open PySem
theorem wp_for {b : D → Ev → M Ev} {s : Ev → M Out} {I : List D → Ev → Prop} {Q : Out → Prop} (step : ∀ d r ρ, I (d :: r) ρ → WP ((b d ρ).bind s) fun o => match o with
    | .nx ρ' => I r ρ'
    | .ct ρ' => I r ρ'
    | .bk ρ' => Q (.nx ρ')
    | .rt v => Q (.rt v)) (fin : ∀ ρ, I [] ρ → Q (.nx ρ)) : ∀ ds ρ, I ds ρ → WP (forGo b s ds ρ) Q
  | [], ρ, h => fin ρ h
  | d :: r, ρ, h => by
    unfold forGo
    have w := WP.bind.mp (step d r ρ h)
    refine WP.bind.mpr (w.mono fun ρ1 w => WP.bind.mpr (w.mono fun o w => ?_))
    cases o with
    | nx ρ2 => exact wp_for step fin r ρ2 w
    | ct ρ2 => exact wp_for step fin r ρ2 w
    | bk ρ2 => exact w
    | rt v => exact w
end Pf
/-! PfZ: a stage with a plainer meaning; rules for running by simp. -/
namespace Pf
open PySem L2
variable {P : Program} {w : World} {K : PySem.W.Frag} {mg : Str → Option Value} {base : Heap}
theorem spD_sub {g : Gc} {n : Nat} {f f' : List D → M D} (h : ∀ ds Q, WP (f' ds) Q → WP (f ds) Q) {vs : List V} {H : Hp} {Q : VK} {E : XK} (s : spD g n f' vs H Q E) : spD g n f vs H Q E := by
  obtain ⟨hl, fa, H0, ds, b, r, q⟩ := s
  exact ⟨hl, fa, H0, ds, b, r, h _ _ q⟩
theorem Stg.sub {g : Gc} {tb : List Dfn} {F F' : Nat → List D → M D} {lv : Nat} (S : Stg g tb P w K mg base F lv) (h : ∀ k ds Q, WP (F' k ds) Q → WP (F k ds) Q) : Stg g tb P w K mg base F' lv :=
  ⟨fun k d e => by
    obtain ⟨a, fd, i1, i2, i3, i4⟩ := S.fns k d e
    refine ⟨a, fd, i1, i2, ?_, fun ds Q q => i4 ds Q (h k ds Q q)⟩
    exact ⟨fun vs H Q E s => i3.len vs H Q E (spD_sub (h k) s), fun A outer s H args us vs Q E room h1 h2 h3 h4 h5 => i3.run A outer s H args us vs Q E room h1 h2 h3 h4 (spD_sub (h k) h5)⟩, S.vals⟩
theorem upd_sub {F : Nat → List D → M D} {i : Nat} {f f' : List D → M D} (h : ∀ ds Q, WP (f' ds) Q → WP (f ds) Q) : ∀ k ds Q, WP (updF F i f' k ds) Q → WP (updF F i f k ds) Q := fun k ds Q q => by
  unfold updF at q ⊢
  by_cases hk : k = i
  · rw [if_pos hk] at q ⊢; exact h ds Q q
  · rw [if_neg hk] at q ⊢; exact q
/-- the draw -/
def drawM : List D → M D
  | [.dict [(.none, .list l)], .int n] => need ((intsOf l).isSome && decide (0 < n ∧ n < 1073741824)) (.draw n.toNat fun r => .ret (.int r))
  | _ => .bad
theorem intsOf_map : ∀ ns : List Int, intsOf (ns.map .int) = some ns
  | [] => rfl
  | n :: r => by show (intsOf (r.map .int)).map (n :: ·) = _; rw [intsOf_map r]; rfl
theorem of_intsOf : ∀ {l : List D} {ns : List Int}, intsOf l = some ns → l = ns.map .int
  | [], ns, h => by cases h; rfl
  | .int i :: r, ns, h => by
    have h : (intsOf r).map (i :: ·) = some ns := h
    cases e : intsOf r with
    | none => rw [e] at h; cases h
    | some ms => rw [e] at h; cases h; rw [of_intsOf e]; rfl
theorem W_bind {α β : Type} {Q : β → Prop} {f : α → M β} {m : M α} : WP (m.bind f) Q = WP m (fun a => WP (f a) Q) := propext WP.bind
theorem W_need {α : Type} {c : Bool} {m : M α} {Q : α → Prop} : WP (need c m) Q = (c = true ∧ WP m Q) := by
  unfold need
  cases c
  · simp [WP]
  · simp
theorem W_ret {α : Type} (a : α) (Q : α → Prop) : WP (.ret a) Q = Q a := rfl
theorem W_if {α : Type} {c : Prop} [Decidable c] {a b : M α} {Q : α → Prop} : WP (if c then a else b) Q = ((c → WP a Q) ∧ (¬ c → WP b Q)) := by
  by_cases h : c <;> simp [h]
theorem W_draw {ns : List Int} {n : Int} {Q : D → Prop} : WP (drawM [feedD ns, .int n]) Q = ((0 < n ∧ n < 1073741824) ∧ ∀ r : Nat, (r : Int) < n → Q (.int r)) := by
  show WP (need ((intsOf (ns.map .int)).isSome && decide (0 < n ∧ n < 1073741824)) (.draw n.toNat fun r => .ret (.int r))) Q = _
  rw [W_need, intsOf_map, Option.isSome_some, Bool.true_and, decide_eq_true_eq]
  show (_ ∧ (0 < n.toNat ∧ ∀ r, r < n.toNat → Q (.int r))) = _
  refine propext ⟨fun ⟨h, h1, h2⟩ => ⟨h, fun r hr => h2 r (by omega)⟩, fun ⟨h, h2⟩ => ⟨h, by omega, fun r hr => h2 r (by omega)⟩⟩
theorem draw_sub {f : List D → M D} (h : DrawOk f) : ∀ ds Q, WP (drawM ds) Q → WP (f ds) Q := fun ds Q q => by
  unfold drawM at q
  split at q
  · rename_i l n
    have q' := q
    rw [W_need, Bool.and_eq_true] at q
    obtain ⟨ns, e⟩ := Option.isSome_iff_exists.mp q.1.1
    rw [of_intsOf e] at q' ⊢
    have q2 : WP (drawM [feedD ns, .int n]) Q := q'
    rw [W_draw] at q2
    obtain ⟨⟨h0, h1⟩, q2⟩ := q2
    have e : n = (n.toNat : Int) := by omega
    rw [e]
    exact (h ns n.toNat (by omega) (by omega)).mono fun d ⟨r, hr, ed⟩ => ed ▸ q2 r (by omega)
  · exact q.elim
end Pf
/-! PfZ2: rules for running by simp. The env is a written list (x :: ρ): nothing is run before it is known. -/
namespace Pf
open PySem
def kOut (k : Ev → Prop) (Q : Out → Prop) : Out → Prop
  | .nx ρ => k ρ
  | .ct ρ => Q (.ct ρ)
  | .bk ρ => Q (.bk ρ)
  | .rt d => Q (.rt d)
theorem kO_nx {k : Ev → Prop} {Q : Out → Prop} {ρ : Ev} : kOut k Q (.nx ρ) = k ρ := rfl
theorem kO_ct {k : Ev → Prop} {Q : Out → Prop} {ρ : Ev} : kOut k Q (.ct ρ) = Q (.ct ρ) := rfl
theorem kO_bk {k : Ev → Prop} {Q : Out → Prop} {ρ : Ev} : kOut k Q (.bk ρ) = Q (.bk ρ) := rfl
theorem kO_rt {k : Ev → Prop} {Q : Out → Prop} {d : D} : kOut k Q (.rt d) = Q (.rt d) := rfl
/-- a test -/
def kIf (k : Bool) (a b : Prop) : Prop := if k = true then a else b
theorem kIf_t {a b : Prop} : kIf true a b = a := rfl
theorem kIf_f {a b : Prop} : kIf false a b = b := rfl
theorem kIf_d {p : Prop} [Decidable p] {a b : Prop} : kIf (decide p) a b = ((p → a) ∧ (¬ p → b)) := by
  unfold kIf
  by_cases h : p <;> simp [h]
theorem kIf_n {p : Bool} {a b : Prop} : kIf (!p) a b = kIf p b a := by cases p <;> rfl
theorem kIf_of {p : Bool} {a b : Prop} (h1 : p = true → a) (h2 : p = false → b) : kIf p a b := by cases p; exact h2 rfl; exact h1 rfl
theorem W_if' {α : Type} {k : Bool} {a b : M α} {Q : α → Prop} : WP (if k = true then a else b) Q = kIf k (WP a Q) (WP b Q) := by cases k <;> rfl
section
variable {fu : Nat} {F : Nat → List D → M D} {x : Option SV} {ρ : Ev} {Q : Out → Prop} {R : D → Prop}
theorem X_nil : WP (exGo fu F .nil (x :: ρ)) Q = Q (.nx (x :: ρ)) := rfl
theorem X_cons {s r : Sx} : WP (exGo fu F (.cons s r) (x :: ρ)) Q = WP (exGo fu F s (x :: ρ)) (kOut (fun ρ1 => WP (exGo fu F r ρ1) Q) Q) := by
  show WP ((exGo fu F s (x :: ρ)).bind _) Q = _
  rw [W_bind]
  congr 1
  funext o
  cases o <;> rfl
theorem X_asg {tg e : Sx} : WP (exGo fu F (.asg tg e) (x :: ρ)) Q = WP (ev F e (x :: ρ)) fun d => WP (tgt tg d (x :: ρ)) fun ρ1 => Q (.nx ρ1) := by
  show WP ((ev F e (x :: ρ)).bind fun d => (tgt tg d (x :: ρ)).bind fun ρ1 => .ret (.nx ρ1)) Q = _
  simp only [W_bind, W_ret]
theorem X_asgO {i : Nat} {e : Sx} : WP (exGo fu F (.asgO i e) (x :: ρ)) Q = WP (ev F e (x :: ρ)) fun d => WP (lstD d) fun ds => isFr e = true ∧ Q (.nx (put (x :: ρ) i (.own (.list ds)))) := by
  show WP ((ev F e (x :: ρ)).bind fun d => match d with | .list ds => need (isFr e) (.ret (.nx (put (x :: ρ) i (.own (.list ds))))) | _ => .bad) Q = _
  rw [W_bind]
  congr 1
  funext d
  cases d <;> first | rfl | exact W_need
theorem X_par {i j : Nat} {oi oj : Bool} {a b : Sx} : WP (exGo fu F (.par i oi a j oj b) (x :: ρ)) Q = WP (ev F a (x :: ρ)) fun u => WP (ev F b (x :: ρ)) fun v => i ≠ j ∧ WP (mkV oi a u) fun p => WP (mkV oj b v) fun q => Q (.nx (put (put (x :: ρ) i p) j q)) := by
  show WP ((ev F a (x :: ρ)).bind fun u => (ev F b (x :: ρ)).bind fun v => need (decide (i ≠ j)) ((mkV oi a u).bind fun p => (mkV oj b v).bind fun q => .ret (.nx (put (put (x :: ρ) i p) j q)))) Q = _
  simp only [W_bind, W_need, W_ret, decide_eq_true_eq]
theorem X_bor {i j : Nat} {c e : Sx} : WP (exGo fu F (.bor i j c e) (x :: ρ)) Q = WP (tst c (ev F c) (x :: ρ)) fun k => kIf k (WP (ev F e (x :: ρ)) fun d => Q (.nx (put (x :: ρ) i (.dat d)))) (WP (go (x :: ρ) j) fun ds => noOwn (x :: ρ) i = true ∧ Q (.nx (put (x :: ρ) i (.bor (.list ds))))) := by
  show WP ((tst c (ev F c) (x :: ρ)).bind fun k => if k = true then (ev F e (x :: ρ)).bind fun d => .ret (.nx (put (x :: ρ) i (.dat d))) else (go (x :: ρ) j).bind fun ds => need (noOwn (x :: ρ) i) (.ret (.nx (put (x :: ρ) i (.bor (.list ds)))))) Q = _
  simp only [W_bind, W_need, W_ret, W_if']
theorem X_app {i : Nat} {e : Sx} : WP (exGo fu F (.app i e) (x :: ρ)) Q = WP (go (x :: ρ) i) fun ds => WP (ev F e (x :: ρ)) fun d => ds.length < sizeLine ∧ Q (.nx (chg (x :: ρ) i (ds ++ [d]))) := by
  show WP ((go (x :: ρ) i).bind fun ds => (ev F e (x :: ρ)).bind fun d => need (decide (ds.length < sizeLine)) (.ret (.nx (chg (x :: ρ) i (ds ++ [d]))))) Q = _
  simp only [W_bind, W_need, W_ret, decide_eq_true_eq]
theorem X_ext {i : Nat} {e : Sx} : WP (exGo fu F (.ext i e) (x :: ρ)) Q = WP (go (x :: ρ) i) fun ds => WP (rdv e (ev F e) (x :: ρ)) fun d => WP (lstD d) fun es => ds.length + es.length ≤ sizeLine ∧ Q (.nx (chg (x :: ρ) i (ds ++ es))) := by
  show WP ((go (x :: ρ) i).bind fun ds => (rdv e (ev F e) (x :: ρ)).bind fun d => (lstD d).bind fun es => need (decide (ds.length + es.length ≤ sizeLine)) (.ret (.nx (chg (x :: ρ) i (ds ++ es))))) Q = _
  simp only [W_bind, W_need, W_ret, decide_eq_true_eq]
/-- what remove leaves -/
def rmvM (ds : List D) (d : D) : M (List D) := match intsOf ds, d, rmvD d ds with
    | some _, .int _, some es => .ret es
    | _, _, _ => .bad
theorem X_rmv {i : Nat} {e : Sx} : WP (exGo fu F (.rmv i e) (x :: ρ)) Q = WP (go (x :: ρ) i) fun ds => WP (ev F e (x :: ρ)) fun d => WP (rmvM ds d) fun es => Q (.nx (chg (x :: ρ) i es)) := by
  show WP ((go (x :: ρ) i).bind fun ds => (ev F e (x :: ρ)).bind fun d => match intsOf ds, d, rmvD d ds with
    | some _, .int _, some es => .ret (.nx (chg (x :: ρ) i es))
    | _, _, _ => .bad) Q = _
  simp only [W_bind]
  congr 1
  funext ds
  congr 1
  funext d
  unfold rmvM
  cases intsOf ds <;> cases d <;> cases rmvD _ ds <;> rfl
def popM (ds : List D) (k : Int) : M (D × List D) := match popD ds k with
    | some p => .ret p
    | none => .bad
theorem X_popS {i : Nat} {e : Sx} : WP (exGo fu F (.popS i e) (x :: ρ)) Q = WP (go (x :: ρ) i) fun ds => WP (ev F e (x :: ρ)) fun d => WP (intD d) fun k => WP (popM ds k) fun p => Q (.nx (chg (x :: ρ) i p.2)) := by
  show WP ((go (x :: ρ) i).bind fun ds => (ev F e (x :: ρ)).bind fun d => (intD d).bind fun k => match popD ds k with
    | some (_, es) => .ret (.nx (chg (x :: ρ) i es))
    | none => .bad) Q = _
  simp only [W_bind]
  congr 1; funext ds; congr 1; funext d; congr 1; funext k
  unfold popM
  cases popD ds k <;> rfl
theorem X_appPop {i j : Nat} {e : Sx} : WP (exGo fu F (.appPop i j e) (x :: ρ)) Q = WP (go (x :: ρ) i) fun cs => WP (go (x :: ρ) j) fun ds => WP (ev F e (x :: ρ)) fun d => WP (intD d) fun k => WP (popM ds k) fun p => (cs.length < sizeLine ∧ i ≠ j) ∧ Q (.nx (chg (chg (x :: ρ) j p.2) i (cs ++ [p.1]))) := by
  show WP ((go (x :: ρ) i).bind fun cs => (go (x :: ρ) j).bind fun ds => (ev F e (x :: ρ)).bind fun d => (intD d).bind fun k => match popD ds k with
    | some (z, es) => need (decide (cs.length < sizeLine ∧ i ≠ j)) (.ret (.nx (chg (chg (x :: ρ) j es) i (cs ++ [z]))))
    | none => .bad) Q = _
  simp only [W_bind]
  congr 1; funext cs; congr 1; funext ds; congr 1; funext d; congr 1; funext k
  unfold popM
  cases popD ds k with
  | none => rfl
  | some p =>
    obtain ⟨z, es⟩ := p
    show WP (need _ _) Q = _
    rw [W_need, decide_eq_true_eq]
    rfl
theorem X_augI {i : Nat} {e : Sx} : WP (exGo fu F (.augI i e) (x :: ρ)) Q = WP (gs (x :: ρ) i) fun u => WP (ev F e (x :: ρ)) fun v => WP (intD u) fun a => WP (intD v) fun b => Q (.nx (put (x :: ρ) i (.dat (.int (a + b))))) := by
  show WP ((gs (x :: ρ) i).bind fun u => (ev F e (x :: ρ)).bind fun v => (intD u).bind fun a => (intD v).bind fun b => .ret (.nx (put (x :: ρ) i (.dat (.int (a + b)))))) Q = _
  simp only [W_bind, W_ret]
theorem X_iff {c a b : Sx} : WP (exGo fu F (.iff c a b) (x :: ρ)) Q = WP (tst c (ev F c) (x :: ρ)) fun k => kIf k (WP (exGo fu F a (x :: ρ)) Q) (WP (exGo fu F b (x :: ρ)) Q) := by
  show WP ((tst c (ev F c) (x :: ρ)).bind fun k => if k = true then exGo fu F a (x :: ρ) else exGo fu F b (x :: ρ)) Q = _
  simp only [W_bind, W_if']
theorem X_for {tg it b : Sx} : WP (exGo fu F (.forS tg it b) (x :: ρ)) Q = WP (ev F it (x :: ρ)) fun d => WP (itmD d) fun ds => WP (forGo (tgt tg) (exGo fu F b) ds (x :: ρ)) Q := by
  show WP ((ev F it (x :: ρ)).bind fun d => (itmD d).bind fun ds => forGo (tgt tg) (exGo fu F b) ds (x :: ρ)) Q = _
  simp only [W_bind]
theorem X_ret {e : Sx} : WP (exGo fu F (.ret e) (x :: ρ)) Q = WP (rdv e (ev F e) (x :: ρ)) fun d => Q (.rt d) := by
  show WP ((rdv e (ev F e) (x :: ρ)).bind fun d => .ret (.rt d)) Q = _
  simp only [W_bind, W_ret]
theorem X_retN : WP (exGo fu F .retN (x :: ρ)) Q = Q (.rt .none) := rfl
theorem X_cont : WP (exGo fu F .cont (x :: ρ)) Q = Q (.ct (x :: ρ)) := rfl
theorem X_brk : WP (exGo fu F .brk (x :: ρ)) Q = Q (.bk (x :: ρ)) := rfl
theorem X_pas : WP (exGo fu F .pas (x :: ρ)) Q = Q (.nx (x :: ρ)) := rfl
theorem X_expr {e : Sx} : WP (exGo fu F (.expr e) (x :: ρ)) Q = WP (ev F e (x :: ρ)) fun _ => Q (.nx (x :: ρ)) := by
  show WP ((ev F e (x :: ρ)).bind fun _ => .ret (.nx (x :: ρ))) Q = _
  simp only [W_bind, W_ret]
theorem X_frz {i : Nat} : WP (exGo fu F (.frz i) (x :: ρ)) Q = WP (frzD (x :: ρ) i) fun ρ1 => Q (.nx ρ1) := by
  show WP ((frzD (x :: ρ) i).bind fun ρ1 => .ret (.nx ρ1)) Q = _
  simp only [W_bind, W_ret]
/-- a def's end -/
def kEnd (R : D → Prop) : Out → Prop
  | .rt d => R d
  | .nx _ => R .none
  | _ => False
theorem kE_rt {d : D} : kEnd R (.rt d) = R d := rfl
theorem kE_nx : kEnd R (.nx ρ) = R .none := rfl
theorem X_run {n : Nat} {b : Sx} {ds : List D} : WP (runD fu n F b ds) R = WP (exGo fu F b (ev0 n ds)) (kEnd R) := by
  show WP ((exGo fu F b (ev0 n ds)).bind _) R = _
  rw [W_bind]
  congr 1
  funext o
  cases o <;> rfl
theorem E_var {i : Nat} : WP (ev F (.var i) (x :: ρ)) R = WP (gs (x :: ρ) i) R := rfl
theorem E_cst {d : D} : WP (ev F (.cst d) (x :: ρ)) R = R d := rfl
theorem E_glob {n : Str} {d : D} : WP (ev F (.glob n d) (x :: ρ)) R = R d := rfl
theorem E_fref {n : Str} {k : Nat} : WP (ev F (.fref n k) (x :: ρ)) R = R (fnD k) := rfl
theorem E_nil : WP (ev F .nil (x :: ρ)) R = R (.list []) := rfl
theorem E_cons {e a : Sx} : WP (ev F (.cons e a) (x :: ρ)) R = WP (ev F e (x :: ρ)) fun d => WP (ev F a (x :: ρ)) fun u => WP (lstD u) fun ds => R (.list (d :: ds)) := by
  show WP ((ev F e (x :: ρ)).bind fun d => (ev F a (x :: ρ)).bind fun u => (lstD u).bind fun ds => .ret (.list (d :: ds))) R = _
  simp only [W_bind, W_ret]
theorem E_tup {a : Sx} : WP (ev F (.tup a) (x :: ρ)) R = WP (ev F a (x :: ρ)) fun u => WP (lstD u) fun ds => ds.length ≤ sizeLine ∧ R (.tuple ds) := by
  show WP ((ev F a (x :: ρ)).bind fun u => (lstD u).bind fun ds => need (decide (ds.length ≤ sizeLine)) (.ret (.tuple ds))) R = _
  simp only [W_bind, W_ret, W_need, decide_eq_true_eq]
theorem E_lst {a : Sx} : WP (ev F (.lst a) (x :: ρ)) R = WP (ev F a (x :: ρ)) fun u => WP (lstD u) fun ds => ds.length ≤ sizeLine ∧ R (.list ds) := by
  show WP ((ev F a (x :: ρ)).bind fun u => (lstD u).bind fun ds => need (decide (ds.length ≤ sizeLine)) (.ret (.list ds))) R = _
  simp only [W_bind, W_ret, W_need, decide_eq_true_eq]
theorem E_call {k : Nat} {a : Sx} : WP (ev F (.call k a) (x :: ρ)) R = WP (ev F a (x :: ρ)) fun u => WP (lstD u) fun ds => WP (F k ds) R := by
  show WP ((ev F a (x :: ρ)).bind fun u => (lstD u).bind fun ds => F k ds) R = _
  simp only [W_bind]
theorem E_callk {k : Nat} {p : List Nat} {a : Sx} : WP (ev F (.callk k p a) (x :: ρ)) R = WP (ev F a (x :: ρ)) fun u => WP (lstD u) fun vs => WP (permD vs p) fun ds => WP (F k ds) R := by
  show WP ((ev F a (x :: ρ)).bind fun u => (lstD u).bind fun vs => (permD vs p).bind fun ds => F k ds) R = _
  simp only [W_bind]
theorem E_bi {b : Bi} {a : Sx} : WP (ev F (.bi b a) (x :: ρ)) R = WP (rdv a (ev F a) (x :: ρ)) fun d => WP (bi1 b d) R := by
  show WP ((rdv a (ev F a) (x :: ρ)).bind fun d => bi1 b d) R = _
  simp only [W_bind]
theorem E_biIf {b : Bi} {k a d : Sx} : WP (ev F (.biIf b k a d) (x :: ρ)) R = WP (tst k (ev F k) (x :: ρ)) fun z => kIf z (WP (rdv a (ev F a) (x :: ρ)) fun u => WP (bi1 b u) R) (WP (rdv d (ev F d) (x :: ρ)) fun u => WP (bi1 b u) R) := by
  show WP (((tst k (ev F k) (x :: ρ)).bind fun z => if z = true then rdv a (ev F a) (x :: ρ) else rdv d (ev F d) (x :: ρ)).bind fun u => bi1 b u) R = _
  simp only [W_bind, W_if']
theorem E_isi {e : Sx} {t : Ty} : WP (ev F (.isi e t) (x :: ρ)) R = WP (rdv e (ev F e) (x :: ρ)) fun d => plainD d = true ∧ R (.bool (isTy t d)) := by
  show WP ((rdv e (ev F e) (x :: ρ)).bind fun d => need (plainD d) (.ret (.bool (isTy t d)))) R = _
  simp only [W_bind, W_need, W_ret]
theorem E_bin {o : Op2} {a b : Sx} : WP (ev F (.bin o a b) (x :: ρ)) R = WP (rdv a (ev F a) (x :: ρ)) fun u => WP (rdv b (ev F b) (x :: ρ)) fun v => WP (op2 o u v) R := by
  show WP ((rdv a (ev F a) (x :: ρ)).bind fun u => (rdv b (ev F b) (x :: ρ)).bind fun v => op2 o u v) R = _
  simp only [W_bind]
theorem E_cmp {o : Cm} {a b : Sx} : WP (ev F (.cmp o a b) (x :: ρ)) R = WP (rdv a (ev F a) (x :: ρ)) fun u => WP (rdv b (ev F b) (x :: ρ)) fun v => WP (cmp2 o u v) R := by
  show WP ((rdv a (ev F a) (x :: ρ)).bind fun u => (rdv b (ev F b) (x :: ρ)).bind fun v => cmp2 o u v) R = _
  simp only [W_bind]
theorem E_neg {a : Sx} : WP (ev F (.neg a) (x :: ρ)) R = WP (ev F a (x :: ρ)) fun u => WP (intD u) fun i => R (.int (-i)) := by
  show WP ((ev F a (x :: ρ)).bind fun u => (intD u).bind fun i => .ret (.int (-i))) R = _
  simp only [W_bind, W_ret]
theorem E_nt {a : Sx} : WP (ev F (.nt a) (x :: ρ)) R = WP (tst a (ev F a) (x :: ρ)) fun k => R (.bool !k) := by
  show WP ((tst a (ev F a) (x :: ρ)).bind fun k => .ret (.bool !k)) R = _
  simp only [W_bind, W_ret]
theorem E_and {a b : Sx} : WP (ev F (.and a b) (x :: ρ)) R = WP (ev F a (x :: ρ)) fun u => WP (truD u) fun k => kIf k (WP (ev F b (x :: ρ)) R) (R u) := by
  show WP ((ev F a (x :: ρ)).bind fun u => (truD u).bind fun k => if k = true then ev F b (x :: ρ) else .ret u) R = _
  simp only [W_bind, W_ret, W_if']
theorem E_or {a b : Sx} : WP (ev F (.or a b) (x :: ρ)) R = WP (ev F a (x :: ρ)) fun u => WP (truD u) fun k => kIf k (R u) (WP (ev F b (x :: ρ)) R) := by
  show WP ((ev F a (x :: ρ)).bind fun u => (truD u).bind fun k => if k = true then .ret u else ev F b (x :: ρ)) R = _
  simp only [W_bind, W_ret, W_if']
theorem E_ifx {c a b : Sx} : WP (ev F (.ifx c a b) (x :: ρ)) R = WP (tst c (ev F c) (x :: ρ)) fun k => kIf k (WP (ev F a (x :: ρ)) R) (WP (ev F b (x :: ρ)) R) := by
  show WP ((tst c (ev F c) (x :: ρ)).bind fun k => if k = true then ev F a (x :: ρ) else ev F b (x :: ρ)) R = _
  simp only [W_bind, W_if']
theorem E_idx {a b : Sx} : WP (ev F (.idx a b) (x :: ρ)) R = WP (rdv a (ev F a) (x :: ρ)) fun u => WP (ev F b (x :: ρ)) fun v => WP (idx2 u v) R := by
  show WP ((rdv a (ev F a) (x :: ρ)).bind fun u => (ev F b (x :: ρ)).bind fun v => idx2 u v) R = _
  simp only [W_bind]
theorem E_sl {a lo hi : Sx} : WP (ev F (.sl a lo hi) (x :: ρ)) R = WP (rdv a (ev F a) (x :: ρ)) fun u => WP (optv lo (ev F lo) (x :: ρ)) fun i => WP (optv hi (ev F hi) (x :: ρ)) fun j => WP (sl2 u i j) R := by
  show WP ((rdv a (ev F a) (x :: ρ)).bind fun u => (optv lo (ev F lo) (x :: ρ)).bind fun i => (optv hi (ev F hi) (x :: ρ)).bind fun j => sl2 u i j) R = _
  simp only [W_bind]
def revM : D → M D
  | .list ds => .ret (.list ds.reverse)
  | .tuple ds => .ret (.tuple ds.reverse)
  | _ => .bad
theorem E_rev {a : Sx} : WP (ev F (.rev a) (x :: ρ)) R = WP (rdv a (ev F a) (x :: ρ)) fun u => WP (revM u) R := by
  show WP ((rdv a (ev F a) (x :: ρ)).bind fun u => match u with
    | .list ds => .ret (.list ds.reverse)
    | .tuple ds => .ret (.tuple ds.reverse)
    | _ => .bad) R = _
  rw [W_bind]
  rfl
theorem rev_l {ds : List D} : revM (.list ds) = .ret (.list ds.reverse) := rfl
theorem rev_t {ds : List D} : revM (.tuple ds) = .ret (.tuple ds.reverse) := rfl
theorem E_rng1 {a : Sx} : WP (ev F (.rng1 a) (x :: ρ)) R = WP (ev F a (x :: ρ)) fun u => WP (intD u) fun i => (-4611686018427387904 ≤ i ∧ i ≤ 1000000) ∧ R (.list (intR 0 i.toNat)) := by
  show WP ((ev F a (x :: ρ)).bind fun u => (intD u).bind fun i => need (decide (-(2 ^ 62) ≤ i ∧ i ≤ 1000000)) (.ret (.list (intR 0 i.toNat)))) R = _
  simp only [W_bind, W_ret, W_need, decide_eq_true_eq, p62]
theorem E_lrng {a : Sx} : WP (ev F (.lrng a) (x :: ρ)) R = WP (ev F a (x :: ρ)) fun u => WP (intD u) fun i => (-4611686018427387904 ≤ i ∧ i ≤ 1000000) ∧ R (.list (intR 0 i.toNat)) := by
  show WP ((ev F a (x :: ρ)).bind fun u => (intD u).bind fun i => need (decide (-(2 ^ 62) ≤ i ∧ i ≤ 1000000)) (.ret (.list (intR 0 i.toNat)))) R = _
  simp only [W_bind, W_ret, W_need, decide_eq_true_eq, p62]
theorem E_trng {a : Sx} : WP (ev F (.trng a) (x :: ρ)) R = WP (ev F a (x :: ρ)) fun u => WP (intD u) fun i => (-4611686018427387904 ≤ i ∧ i ≤ 1000000) ∧ R (.tuple (intR 0 i.toNat)) := by
  show WP ((ev F a (x :: ρ)).bind fun u => (intD u).bind fun i => need (decide (-(2 ^ 62) ≤ i ∧ i ≤ 1000000)) (.ret (.tuple (intR 0 i.toNat)))) R = _
  simp only [W_bind, W_ret, W_need, decide_eq_true_eq, p62]
theorem E_lc {own : List Nat} {tg it cd elt : Sx} : WP (ev F (.lc own tg it cd elt) (x :: ρ)) R = WP (itmv it (ev F it) (x :: ρ)) fun ds => datOnly (x :: ρ) own = true ∧ WP (lcGo (fun d => tgt tg d (wip (x :: ρ) own)) (tst cd (ev F cd)) (ev F elt) ds) fun ys => R (.list ys) := by
  show WP ((itmv it (ev F it) (x :: ρ)).bind fun ds => need (datOnly (x :: ρ) own) ((lcGo (fun d => tgt tg d (wip (x :: ρ) own)) (tst cd (ev F cd)) (ev F elt) ds).bind fun ys => .ret (.list ys))) R = _
  simp only [W_bind, W_ret, W_need]
def upM : D → M D
  | .str a => need (decide (a.length ≤ 5592405)) (.ret (.str (Txt.upper a)))
  | _ => .bad
theorem E_upper {e : Sx} : WP (ev F (.upper e) (x :: ρ)) R = WP (ev F e (x :: ρ)) fun d => WP (upM d) R := by
  show WP ((ev F e (x :: ρ)).bind fun d => match d with
    | .str a => need (decide (a.length ≤ 5592405)) (.ret (.str (Txt.upper a)))
    | _ => .bad) R = _
  rw [W_bind]
  rfl
def stepM (n : Nat) : D → D → M D
  | .list ds, .int i => need (decide (n ≠ 0 ∧ (stepD ds i n).length ≤ sizeLine)) (.ret (.list (stepD ds i n)))
  | _, _ => .bad
theorem E_step {a lo : Sx} {n : Nat} : WP (ev F (.step a lo n) (x :: ρ)) R = WP (rdv a (ev F a) (x :: ρ)) fun u => WP (ev F lo (x :: ρ)) fun v => WP (stepM n u v) R := by
  show WP ((rdv a (ev F a) (x :: ρ)).bind fun u => (ev F lo (x :: ρ)).bind fun v => match u, v with
    | .list ds, .int i => need (decide (n ≠ 0 ∧ (stepD ds i n).length ≤ sizeLine)) (.ret (.list (stepD ds i n)))
    | _, _ => .bad) R = _
  simp only [W_bind]
  rfl
end
theorem T_var {i : Nat} {d : D} {x : Option SV} {ρ : Ev} {Q : Ev → Prop} : WP (tgt (.var i) d (x :: ρ)) Q = Q (put (x :: ρ) i (.dat d)) := rfl
theorem T_tup {a : Sx} {ds : List D} {x : Option SV} {ρ : Ev} {Q : Ev → Prop} : WP (tgt (.tup a) (.tuple ds) (x :: ρ)) Q = WP (tgt a (.list ds) (x :: ρ)) Q := rfl
theorem T_nil {x : Option SV} {ρ : Ev} {Q : Ev → Prop} : WP (tgt .nil (.list []) (x :: ρ)) Q = Q (x :: ρ) := rfl
theorem T_cons {t a : Sx} {d : D} {ds : List D} {x : Option SV} {ρ : Ev} {Q : Ev → Prop} : WP (tgt (.cons t a) (.list (d :: ds)) (x :: ρ)) Q = WP (tgt t d (x :: ρ)) fun ρ1 => WP (tgt a (.list ds) ρ1) Q := by
  show WP ((tgt t d (x :: ρ)).bind fun ρ1 => tgt a (.list ds) ρ1) Q = _
  rw [W_bind]
theorem tg_var {i : Nat} {d : D} {x : Option SV} {ρ : Ev} : tgt (.var i) d (x :: ρ) = .ret (put (x :: ρ) i (.dat d)) := rfl
/-- a slot with data or nothing -/
def dz (o : Option D) : Option SV := o.map .dat
theorem dz_n : (none : Option SV) = dz none := rfl
theorem dz_s {d : D} : some (SV.dat d) = dz (some d) := rfl
def isOwn : Option SV → Bool
  | some (.own _) => true
  | _ => false
theorem io_o {d : D} : isOwn (some (.own d)) = true := rfl
theorem io_d {d : D} : isOwn (some (.dat d)) = false := rfl
theorem io_b {d : D} : isOwn (some (.bor d)) = false := rfl
theorem io_n : isOwn none = false := rfl
theorem io_z {o : Option D} : isOwn (dz o) = false := by cases o <;> rfl
theorem put_eq {ρ : Ev} {i : Nat} {v : SV} : put ρ i v = if isOwn (ρ[i]?.getD none) = true then (clr ρ).set i (some v) else ρ.set i (some v) := by
  unfold put
  cases h : ρ[i]? with
  | none => rfl
  | some o =>
    cases o with
    | none => rfl
    | some x => cases x <;> rfl
theorem noOwn_eq {ρ : Ev} {i : Nat} : noOwn ρ i = !isOwn (ρ[i]?.getD none) := by
  unfold noOwn
  cases h : ρ[i]? with
  | none => rfl
  | some o =>
    cases o with
    | none => rfl
    | some x => cases x <;> rfl
theorem datOnly_eq {ρ : Ev} {vs : List Nat} : datOnly ρ vs = vs.all fun i => !isOwn (ρ[i]?.getD none) := by
  unfold datOnly
  congr 1
  funext i
  exact noOwn_eq
theorem clr_z {o : Option D} : clr1 (dz o) = dz o := by cases o <;> rfl
theorem clr_o {d : D} : clr1 (some (.own d)) = some (.own d) := rfl
theorem clr_d {d : D} : clr1 (some (.dat d)) = some (.dat d) := rfl
theorem clr_b {d : D} : clr1 (some (.bor d)) = none := rfl
theorem clr_n : clr1 none = none := rfl
/-- a for's step -/
def kFor (I : Ev → Prop) (Q : Out → Prop) : Out → Prop
  | .nx ρ => I ρ
  | .ct ρ => I ρ
  | .bk ρ => Q (.nx ρ)
  | .rt v => Q (.rt v)
theorem kF_nx {I : Ev → Prop} {Q : Out → Prop} {ρ : Ev} : kFor I Q (.nx ρ) = I ρ := rfl
theorem kF_ct {I : Ev → Prop} {Q : Out → Prop} {ρ : Ev} : kFor I Q (.ct ρ) = I ρ := rfl
theorem kF_bk {I : Ev → Prop} {Q : Out → Prop} {ρ : Ev} : kFor I Q (.bk ρ) = Q (.nx ρ) := rfl
theorem kF_rt {I : Ev → Prop} {Q : Out → Prop} {d : D} : kFor I Q (.rt d) = Q (.rt d) := rfl
/-- a for: what is left, and the env -/
theorem wp_forI {tg b : Sx} {fu : Nat} {F : Nat → List D → M D} (I : List D → Ev → Prop) {Q : Out → Prop} {ds : List D} {ρ : Ev} (h0 : I ds ρ) (step : ∀ d r ρ, I (d :: r) ρ → WP (tgt tg d ρ) fun ρ1 => WP (exGo fu F b ρ1) (kFor (I r) Q)) (fin : ∀ ρ, I [] ρ → Q (.nx ρ)) : WP (forGo (tgt tg) (exGo fu F b) ds ρ) Q :=
  wp_for (I := I) (fun d r ρ h => by
    rw [W_bind]
    refine (step d r ρ h).mono fun ρ1 h1 => h1.mono fun o ho => ?_
    cases o <;> exact ho) fin ds ρ h0
theorem sz0 (n : Nat) (h : n ≤ 100000) : n ≤ sizeLine := by rw [sizeLine_eq]; omega
theorem sz1 (n : Nat) (h : n < 100000) : n < sizeLine := by rw [sizeLine_eq]; omega
theorem ixq {ds : List D} {k : Nat} (hk : k < ds.length) : seqIndex? (k : Int) ds.length = some k := by
  unfold seqIndex?
  simp [hk]
  try omega
theorem popq {ds : List D} {k : Nat} (hk : k < ds.length) (hb : ds.length ≤ 1000) : popD ds (k : Int) = some (ds[k], ds.eraseIdx k) := by
  unfold popD
  rw [if_pos (by omega), ixq hk]
  simp [hk]
theorem popM_of {ds : List D} {k : Int} {p : D × List D} (h : popD ds k = some p) : popM ds k = .ret p := by simp only [popM, h]
theorem W_pop {ds : List D} {k : Nat} {Q : D × List D → Prop} (hk : k < ds.length) (hb : ds.length ≤ 1000) : WP (popM ds (k : Int)) Q = Q (ds[k], ds.eraseIdx k) := by
  rw [popM_of (popq hk hb), W_ret]
/-- the menu's item at a drawn place -/
theorem pick_l {ds : List D} {n : Int} {Q : D → Prop} (h : (ds.length : Int) = n) : (∀ r : Nat, (r : Int) < n → WP (idx2 (.list ds) (.int r)) Q) = ∀ d ∈ ds, Q d := by
  subst h
  refine propext ⟨fun w d hd => ?_, fun w r hr => ?_⟩
  · obtain ⟨i, hi, rfl⟩ := List.mem_iff_getElem.mp hd
    have := w i (by omega)
    rw [ix_inL (List.getElem?_eq_getElem hi)] at this
    exact this
  · have hr' : r < ds.length := by omega
    rw [ix_inL (List.getElem?_eq_getElem hr')]
    exact w _ (List.getElem_mem hr')
theorem pick_of {ds : List D} {n : Int} {Q : D → Prop} (h : (ds.length : Int) = n) (w : ∀ d ∈ ds, Q d) : ∀ r : Nat, (r : Int) < n → WP (idx2 (.list ds) (.int r)) Q := by
  rw [pick_l h]
  exact w
/-- a slot with an own list or nothing -/
def oz (o : Option (List D)) : Option SV := o.map fun ds => .own (.list ds)
theorem oz_c {o : Option (List D)} : clr1 (oz o) = oz o := by cases o <;> rfl
theorem oz_i {o : Option (List D)} : isOwn (oz o) = o.isSome := by cases o <;> rfl
theorem sh_i (a : Int) : SeqAt.shaped (.int a) = true := rfl
theorem eqv_i (a b : Int) : PyData.eqv (.int a) (.int b) = decide (a = b) := by
  simp only [PyData.eqv]
  rfl
theorem c_eqI (a b : Int) : cmp2 .eq (.int a) (.int b) = .ret (.bool (decide (a = b))) := by
  rw [c_eq, k_i, sh_i, sh_i, eqv_i]
  rfl
theorem wp_lc_flt {b : D → M Ev} {t : Ev → M Bool} {e : Ev → M D} {p : D → Bool} : ∀ {ds : List D} {Q : List D → Prop}, (∀ d ∈ ds, WP (b d) fun ρ => WP (t ρ) fun c => c = p d ∧ WP (e ρ) fun y => y = d) → Q (ds.filter p) → WP (lcGo b t e ds) Q
  | [], Q, _, q => q
  | d :: r, Q, h, q => by
    show WP ((b d).bind fun ρ => (t ρ).bind fun c => if c = true then (e ρ).bind fun y => (lcGo b t e r).bind fun ys => .ret (y :: ys) else lcGo b t e r) Q
    simp only [W_bind]
    refine (h d List.mem_cons_self).mono fun ρ h1 => h1.mono fun c ⟨h2, h3⟩ => ?_
    have hr : ∀ d ∈ r, _ := fun d hd => h d (List.mem_cons_of_mem _ hd)
    subst h2
    cases hp : p d with
    | true =>
      rw [if_pos rfl, W_bind]
      refine h3.mono fun y hy => ?_
      subst hy
      rw [W_bind]
      refine wp_lc_flt hr ?_
      rw [List.filter_cons, if_pos hp] at q
      exact q
    | false =>
      rw [if_neg (by simp)]
      refine wp_lc_flt hr ?_
      rw [List.filter_cons, if_neg (by rw [hp]; simp)] at q
      exact q
theorem wp_lc_map {b : D → M Ev} {t : Ev → M Bool} {e : Ev → M D} {f : D → D} : ∀ {ds : List D} {Q : List D → Prop}, (∀ d ∈ ds, WP (b d) fun ρ => WP (t ρ) fun c => c = true ∧ WP (e ρ) fun y => y = f d) → Q (ds.map f) → WP (lcGo b t e ds) Q
  | [], Q, _, q => q
  | d :: r, Q, h, q => by
    show WP ((b d).bind fun ρ => (t ρ).bind fun c => if c = true then (e ρ).bind fun y => (lcGo b t e r).bind fun ys => .ret (y :: ys) else lcGo b t e r) Q
    simp only [W_bind]
    refine (h d List.mem_cons_self).mono fun ρ h1 => h1.mono fun c ⟨h2, h3⟩ => ?_
    subst h2
    rw [if_pos rfl, W_bind]
    refine h3.mono fun y hy => ?_
    subst hy
    rw [W_bind]
    exact wp_lc_map (fun d hd => h d (List.mem_cons_of_mem _ hd)) q
end Pf
/-! PfZ3: tame data by their leaves, depth and size. -/
namespace Pf
open PySem
mutual
def lf (I : Nat) : D → Bool
  | .none => true
  | .bool _ => true
  | .int i => decide (i.natAbs ≤ I)
  | .str x => x.cps.toList.all fun c => decide (c < 128)
  | .list xs => lfA I xs
  | .tuple xs => lfA I xs
  | .dict _ => false
def lfA (I : Nat) : List D → Bool
  | [] => true
  | x :: xs => lf I x && lfA I xs
end
mutual
def sz : D → Nat
  | .none => 1
  | .bool _ => 1
  | .int _ => 1
  | .str x => x.cps.toList.length + 1
  | .list xs => szA xs + 1
  | .tuple xs => szA xs + 1
  | .dict _ => 1
def szA : List D → Nat
  | [] => 0
  | x :: xs => sz x + szA xs
end
theorem lfA_iff {I : Nat} : ∀ {xs : List D}, lfA I xs = true ↔ ∀ x ∈ xs, lf I x = true
  | [] => ⟨fun _ x h => (by cases h), fun _ => (by simp only [lfA])⟩
  | x :: xs => by
    simp only [lfA, Bool.and_eq_true, lfA_iff (xs := xs), List.mem_cons, forall_eq_or_imp]
theorem str_lay {x : Str} (h : x.cps.toList.all (fun c => decide (c < 128)) = true) : (PyData.str x).canLay0 = true := by
  simp only [PyData.canLay0, PyData.strOk, Array.all_eq_true']
  intro c hc
  have := List.all_eq_true.mp h c (Array.mem_toList_iff.mpr hc)
  simp only [decide_eq_true_eq] at this ⊢
  omega
mutual
theorem lf_mono {I J : Nat} (h : I ≤ J) : ∀ d : D, lf I d = true → lf J d = true
  | .none, _ => by simp only [lf]
  | .bool _, _ => by simp only [lf]
  | .int i, q => by simp only [lf, decide_eq_true_eq] at q ⊢; omega
  | .str x, q => by simp only [lf] at q ⊢; exact q
  | .list xs, q => by simp only [lf] at q ⊢; exact lfA_mono h xs q
  | .tuple xs, q => by simp only [lf] at q ⊢; exact lfA_mono h xs q
  | .dict _, q => by simp only [lf] at q; cases q
theorem lfA_mono {I J : Nat} (h : I ≤ J) : ∀ xs : List D, lfA I xs = true → lfA J xs = true
  | [], _ => by simp only [lfA]
  | x :: xs, q => by
    simp only [lfA, Bool.and_eq_true] at q ⊢
    exact ⟨lf_mono h x q.1, lfA_mono h xs q.2⟩
end
mutual
theorem lf_lay {I : Nat} : ∀ d : D, lf I d = true → d.canLay0 = true
  | .none, _ => by simp only [PyData.canLay0]
  | .bool _, _ => by simp only [PyData.canLay0]
  | .int i, q => by simp only [PyData.canLay0]
  | .str x, q => by simp only [lf] at q; exact str_lay q
  | .list xs, q => by simp only [lf, PyData.canLay0] at q ⊢; exact lfA_lay xs q
  | .tuple xs, q => by simp only [lf, PyData.canLay0] at q ⊢; exact lfA_lay xs q
  | .dict _, q => by simp only [lf] at q; cases q
theorem lfA_lay {I : Nat} : ∀ xs : List D, lfA I xs = true → PyData.canLayAll0 xs = true
  | [], _ => by simp only [PyData.canLayAll0]
  | x :: xs, q => by
    simp only [lfA, PyData.canLayAll0, Bool.and_eq_true] at q ⊢
    exact ⟨lf_lay x q.1, lfA_lay xs q.2⟩
end
theorem log_lt {n : Nat} (h : n ≤ 10 ^ 60) : n.log2 < 1920 := by
  rcases Nat.eq_zero_or_pos n with e | e
  · subst e; decide
  · exact (Nat.log2_lt (by omega)).mpr (Nat.lt_of_le_of_lt h (by decide +kernel))
mutual
theorem lf_show {I : Nat} (h : I ≤ 10 ^ 60) : ∀ d : D, lf I d = true → d.showable = true
  | .none, _ => by simp only [PyData.showable]
  | .bool _, _ => by simp only [PyData.showable]
  | .int i, q => by simp only [lf, PyData.showable, decide_eq_true_eq] at q ⊢; exact log_lt (Nat.le_trans q h)
  | .str x, q => by simp only [PyData.showable]
  | .list xs, q => by simp only [lf, PyData.showable] at q ⊢; exact lfA_show h xs q
  | .tuple xs, q => by simp only [lf, PyData.showable] at q ⊢; exact lfA_show h xs q
  | .dict _, q => by simp only [lf] at q; cases q
theorem lfA_show {I : Nat} (h : I ≤ 10 ^ 60) : ∀ xs : List D, lfA I xs = true → PyData.showableAll xs = true
  | [], _ => by simp only [PyData.showableAll]
  | x :: xs, q => by
    simp only [lfA, PyData.showableAll, Bool.and_eq_true] at q ⊢
    exact ⟨lf_show h x q.1, lfA_show h xs q.2⟩
end
theorem shw_int {i : Int} (h : i.natAbs ≤ 10 ^ 60) : (PyData.shown (.int i)).length ≤ 62 := by
  have e := int_text_length_le10 (a := i) (k := 61) (by decide) (Nat.lt_of_le_of_lt h (by decide +kernel))
  simp only [PyData.shown]
  show (Str.ofString (toString i)).length ≤ 62
  rw [ofString_length]
  exact e
mutual
theorem lf_short {I : Nat} (h : I ≤ 10 ^ 60) : ∀ d : D, lf I d = true → d.leavesShort 62 = true
  | .none, _ => by simp only [PyData.leavesShort]
  | .bool _, _ => by simp only [PyData.leavesShort]
  | .int i, q => by simp only [lf, PyData.leavesShort, decide_eq_true_eq] at q ⊢; exact shw_int (Nat.le_trans q h)
  | .str x, q => by
    simp only [lf, PyData.leavesShort, List.all_eq_true, decide_eq_true_eq] at q ⊢
    intro c hc
    exact Nat.lt_trans (q c hc) (by decide)
  | .list xs, q => by simp only [lf, PyData.leavesShort] at q ⊢; exact lfA_short h xs q
  | .tuple xs, q => by simp only [lf, PyData.leavesShort] at q ⊢; exact lfA_short h xs q
  | .dict _, q => by simp only [lf] at q; cases q
theorem lfA_short {I : Nat} (h : I ≤ 10 ^ 60) : ∀ xs : List D, lfA I xs = true → PyData.leavesShortAll 62 xs = true
  | [], _ => by simp only [PyData.leavesShortAll]
  | x :: xs, q => by
    simp only [lfA, PyData.leavesShortAll, Bool.and_eq_true] at q ⊢
    exact ⟨lf_short h x q.1, lfA_short h xs q.2⟩
end
theorem log10 {n : Nat} (h : n ≤ 1022) (h0 : n ≠ 0) : n.log2 < 10 := (Nat.log2_lt h0).mpr (by omega)
mutual
theorem lf_wt : ∀ d : D, lf 1022 d = true → d.weight + 1 ≤ 11 * sz d
  | .none, _ => by simp only [PyData.weight, sz]; omega
  | .bool _, _ => by simp only [PyData.weight, sz]; omega
  | .int i, q => by
    simp only [lf, PyData.weight, sz, decide_eq_true_eq] at q ⊢
    split
    · omega
    · rename_i hi
      have := log10 q (by intro e; apply hi; have : i = 0 := by omega
                          subst this; rfl)
      omega
  | .str x, q => by simp only [PyData.weight, sz, Array.length_toList]; omega
  | .list xs, q => by simp only [lf, PyData.weight, sz] at q ⊢; have := lfA_wt xs q; omega
  | .tuple xs, q => by simp only [lf, PyData.weight, sz] at q ⊢; have := lfA_wt xs q; omega
  | .dict _, q => by simp only [lf] at q; cases q
theorem lfA_wt : ∀ xs : List D, lfA 1022 xs = true → PyData.weightAll xs ≤ 11 * szA xs
  | [], _ => by simp only [PyData.weightAll, szA]; omega
  | x :: xs, q => by
    simp only [lfA, PyData.weightAll, szA, Bool.and_eq_true] at q ⊢
    have h1 := lf_wt x q.1
    have h2 := lfA_wt xs q.2
    omega
end
theorem szA_app (a b : List D) : szA (a ++ b) = szA a + szA b := by
  induction a with
  | nil => simp only [List.nil_append, szA, Nat.zero_add]
  | cons x r ih => simp only [List.cons_append, szA, ih]; omega
theorem szA_split (a : List D) (i : Nat) : szA a = szA (a.take i) + szA (a.drop i) := by
  rw [← szA_app, List.take_append_drop]
theorem szA_take (a : List D) (i : Nat) : szA (a.take i) ≤ szA a := by have := szA_split a i; omega
theorem szA_drop (a : List D) (i : Nat) : szA (a.drop i) ≤ szA a := by have := szA_split a i; omega
theorem szA_rev (a : List D) : szA a.reverse = szA a := by
  induction a with
  | nil => rfl
  | cons x r ih => rw [List.reverse_cons, szA_app, ih]; simp only [szA]; omega
theorem szA_mem {a : List D} {x : D} (h : x ∈ a) : sz x ≤ szA a := by
  induction a with
  | nil => cases h
  | cons y r ih =>
    simp only [szA]
    rcases List.mem_cons.mp h with e | e
    · subst e; omega
    · have := ih e; omega
/-- tame -/
structure Ta (I n s : Nat) (d : D) : Prop where
  lf : lf I d = true
  dep : d.depth ≤ n
  sz : sz d ≤ s
structure TaL (I n s : Nat) (ds : List D) : Prop where
  el : ∀ d ∈ ds, Pf.lf I d = true ∧ d.depth ≤ n
  sz : szA ds ≤ s
theorem Ta.mono {I n s I' n' s' : Nat} {d : D} (h : Ta I n s d) (h1 : I ≤ I') (h2 : n ≤ n') (h3 : s ≤ s') : Ta I' n' s' d := ⟨lf_mono h1 d h.lf, Nat.le_trans h.dep h2, Nat.le_trans h.sz h3⟩
theorem TaL.tup {I n s : Nat} {ds : List D} (h : TaL I n s ds) : Ta I (n + 1) (s + 1) (.tuple ds) := by
  refine ⟨?_, ?_, ?_⟩
  · simp only [Pf.lf]; exact lfA_iff.mpr fun x hx => (h.el x hx).1
  · simp only [PyData.depth]; have := dep_of fun x hx => (h.el x hx).2; omega
  · simp only [Pf.sz]; have := h.sz; omega
theorem TaL.lst {I n s : Nat} {ds : List D} (h : TaL I n s ds) : Ta I (n + 1) (s + 1) (.list ds) := by
  refine ⟨?_, ?_, ?_⟩
  · simp only [Pf.lf]; exact lfA_iff.mpr fun x hx => (h.el x hx).1
  · simp only [PyData.depth]; have := dep_of fun x hx => (h.el x hx).2; omega
  · simp only [Pf.sz]; have := h.sz; omega
theorem Ta.tupL {I n s : Nat} {ds : List D} (h : Ta I n s (.tuple ds)) : TaL I (n - 1) (s - 1) ds := by
  have h1 := h.lf; have h2 := h.dep; have h3 := h.sz
  simp only [Pf.lf, PyData.depth, Pf.sz] at h1 h2 h3
  exact ⟨fun d hd => ⟨lfA_iff.mp h1 d hd, by have := dep_mem d hd; omega⟩, by omega⟩
theorem TaL.app {I n s I' n' s' : Nat} {a b : List D} (h : TaL I n s a) (h' : TaL I' n' s' b) (hi : I' ≤ I) (hn : n' ≤ n) : TaL I n (s + s') (a ++ b) := ⟨fun d hd => by
  rcases List.mem_append.mp hd with q | q
  · exact h.el d q
  · exact ⟨lf_mono hi d (h'.el d q).1, Nat.le_trans (h'.el d q).2 hn⟩, by rw [szA_app]; have := h.sz; have := h'.sz; omega⟩
theorem TaL.mono {I n s I' n' s' : Nat} {ds : List D} (h : TaL I n s ds) (h1 : I ≤ I') (h2 : n ≤ n') (h3 : s ≤ s') : TaL I' n' s' ds := ⟨fun d hd => ⟨lf_mono h1 d (h.el d hd).1, Nat.le_trans (h.el d hd).2 h2⟩, Nat.le_trans h.sz h3⟩
theorem TaL.nil {I n s : Nat} : TaL I n s [] := ⟨fun d hd => (by cases hd), Nat.zero_le _⟩
theorem TaL.one {I n s : Nat} {d : D} (h : Ta I n s d) : TaL I n s [d] := ⟨fun x hx => by rw [List.mem_singleton.mp hx]; exact ⟨h.lf, h.dep⟩, by simp only [szA]; have := h.sz; omega⟩
theorem TaL.cons {I n s t : Nat} {d : D} {ds : List D} (h : Ta I n s d) (h' : TaL I n t ds) : TaL I n (s + t) (d :: ds) := (TaL.one h).app h' (Nat.le_refl _) (Nat.le_refl _)
theorem TaL.cut {I n s : Nat} {ds : List D} (h : TaL I n s ds) (lo hi : Option Int) : TaL I n s (cutD ds lo hi) := ⟨fun d hd => h.el d (List.mem_of_mem_drop (List.mem_of_mem_take hd)), Nat.le_trans (Nat.le_trans (szA_take _ _) (szA_drop _ _)) h.sz⟩
theorem TaL.rev {I n s : Nat} {ds : List D} (h : TaL I n s ds) : TaL I n s ds.reverse := ⟨fun d hd => h.el d (List.mem_reverse.mp hd), by rw [szA_rev]; exact h.sz⟩
theorem TaL.len {I n s : Nat} {ds : List D} (h : TaL I n s ds) : ds.length ≤ s := by
  refine Nat.le_trans ?_ h.sz
  clear h
  induction ds with
  | nil => exact Nat.zero_le _
  | cons x r ih =>
    have : 1 ≤ Pf.sz x := by cases x <;> simp only [Pf.sz] <;> omega
    simp only [List.length_cons, szA]; omega
theorem Ta.gd {I n s : Nat} {d : D} (h : Ta I n s d) (h1 : I ≤ 1022) (h2 : n ≤ 40) (h3 : s ≤ 40000) : Gd d := ⟨lf_lay d h.lf, Nat.le_trans h.dep h2, by have := lf_wt d (lf_mono h1 d h.lf); have := h.sz; omega⟩
theorem Ta.sh {I n s : Nat} {d : D} (h : Ta I n s d) (h2 : n ≤ 64) : SeqAt.shaped d = true := by
  unfold SeqAt.shaped
  rw [lf_lay d h.lf, decide_eq_true (Nat.le_trans h.dep h2)]
  rfl
end Pf
namespace K01
open PySem PySem.Spec PyProof.Rows L2 Pf
def top (i : Nat) : Stmt := PySem.Challenge.pw_sealshelf_k01_kinds_told.main.body.getD i (.Pass ⟨0, 0, 0, 0⟩)
def fk : Str × Str × Str × Str := ("cells", "at", "left", "count")
def bn : List Str := ["all", "bool", "int", "isinstance", "len", "list", "ord", "range", "repr", "sorted", "str", "tuple", "zip"]
def cs : List (Str × D) := [("LETTERS", (.str "abcdefghijklmnopqrstuvwxyz")), ("LONGEST", (.int 8)), ("WORLD", (.str "world"))]
def d_is_integer : Dfn := ⟨"is_integer", ["thing"], top 4, []⟩
def d_is_number : Dfn := ⟨"is_number", ["thing"], top 5, []⟩
def d_is_name : Dfn := ⟨"is_name", ["thing"], top 6, [(["thing"], [0])]⟩
def d_is_key : Dfn := ⟨"is_key", ["thing"], top 7, [(["thing"], [0])]⟩
def d_is_text : Dfn := ⟨"is_text", ["thing"], top 8, [(["thing"], [0])]⟩
def d_is_thing : Dfn := ⟨"is_thing", ["thing"], top 9, [(["thing"], [0])]⟩
def d_rises : Dfn := ⟨"rises", ["values"], top 10, []⟩
def d_is_rising : Dfn := ⟨"is_rising", ["thing", "check"], top 11, []⟩
def d_is_keys : Dfn := ⟨"is_keys", ["thing"], top 12, [(["thing"], [0])]⟩
def d_is_box : Dfn := ⟨"is_box", ["thing"], top 13, [(["thing"], [0])]⟩
def d_is_boxes : Dfn := ⟨"is_boxes", ["thing"], top 14, [(["thing"], [0])]⟩
def d_is_hand : Dfn := ⟨"is_hand", ["thing"], top 15, []⟩
def d_is_shelf : Dfn := ⟨"is_shelf", ["thing"], top 16, [(["thing"], [0])]⟩
def d_law_feed : Dfn := ⟨"_law_feed", ["_law_script"], top 18, []⟩
def d_law_draw : Dfn := ⟨"_law_draw", ["_law_feed_here", "_law_many"], top 19, []⟩
def d_law_key : Dfn := ⟨"_law_key", ["_law_item"], top 20, []⟩
def d_law_named : Dfn := ⟨"_law_named", ["_law_item"], top 21, []⟩
def d_law_page : Dfn := ⟨"_law_page", ["_law_item"], top 22, []⟩
def d_law_rises : Dfn := ⟨"_law_rises", ["_law_some"], top 23, []⟩
def d_law_keyed : Dfn := ⟨"_law_keyed", ["_law_item"], top 24, []⟩
def d_law_boxed : Dfn := ⟨"_law_boxed", ["_law_item"], top 25, []⟩
def d_law_grip : Dfn := ⟨"_law_grip", ["_law_feed_here", "_law_many", "_law_most"], top 26, []⟩
def d_law_lot : Dfn := ⟨"_law_lot", ["_law_feed_here", "_law_size", "_law_many"], top 27, []⟩
def d_law_odd : Dfn := ⟨"_law_odd", ["_law_feed_here"], top 28, []⟩
def d_law_bent : Dfn := ⟨"_law_bent", ["_law_feed_here", "_law_item"], top 29, []⟩
def d_law_shelved : Dfn := ⟨"_law_shelved", ["_law_item"], top 30, []⟩
def d_law_right : Dfn := ⟨"_law_right", ["_law_item"], top 31, []⟩
def d_law_values : Dfn := ⟨"_law_values", [], top 32, []⟩
def d_law : Dfn := ⟨"law", ["_law_script"], top 33, []⟩
def tb : List Dfn := [d_is_integer, d_is_number, d_is_name, d_is_key, d_is_text, d_is_thing, d_rises, d_is_rising, d_is_keys, d_is_box, d_is_boxes, d_is_hand, d_is_shelf, d_law_feed, d_law_draw, d_law_key, d_law_named, d_law_page, d_law_rises, d_law_keyed, d_law_boxed, d_law_grip, d_law_lot, d_law_odd, d_law_bent, d_law_shelved, d_law_right, d_law_values, d_law]
-- 0 is_integer: 0=thing
def N_is_integer : List Str := ["thing"]
def b_is_integer : Sx := (.cons (.ret (.and (.isi (.var 0) .int) (.nt (.isi (.var 0) .bool))))
    .nil)
theorem sc_is_integer : FnScope N_is_integer d_is_integer.ps (defScope d_is_integer.st) := ⟨rfl, rfl, rfl, by decide +kernel, rfl, by decide +kernel, by decide +kernel⟩
theorem mt_is_integer : mt b_is_integer (sc0 fk tb bn cs N_is_integer d_is_integer.st) (.b (defBody d_is_integer.st)) = true := by decide +kernel
-- 1 is_number: 0=thing
def N_is_number : List Str := ["thing"]
def b_is_number : Sx := (.cons (.ret (.and (.call 0 (.cons (.var 0) .nil)) (.cmp .ge (.var 0) (.cst (.int 0)))))
    .nil)
theorem sc_is_number : FnScope N_is_number d_is_number.ps (defScope d_is_number.st) := ⟨rfl, rfl, rfl, by decide +kernel, rfl, by decide +kernel, by decide +kernel⟩
theorem mt_is_number : mt b_is_number (sc0 fk tb bn cs N_is_number d_is_number.st) (.b (defBody d_is_number.st)) = true := by decide +kernel
-- 2 is_name: 0=thing 1=sign
def N_is_name : List Str := ["thing", "sign"]
def b_is_name : Sx := (.cons (.iff (.or (.nt (.isi (.var 0) .str)) (.nt (.chain .le .le (.cst (.int 1)) (.bi .len (.var 0)) (.glob "LONGEST" (.int 8))))) (.cons (.ret (.cst (.bool false)))
    .nil) .nil)
    (.cons (.ret (.bi .all (.lc [1] (.var 1) (.var 0) .none_ (.cmp .isin (.var 1) (.glob "LETTERS" (.str "abcdefghijklmnopqrstuvwxyz"))))))
    .nil))
theorem sc_is_name : FnScope N_is_name d_is_name.ps (defScope d_is_name.st) := ⟨rfl, rfl, rfl, by decide +kernel, rfl, by decide +kernel, by decide +kernel⟩
theorem mt_is_name : mt b_is_name (sc0 fk tb bn cs N_is_name d_is_name.st) (.b (defBody d_is_name.st)) = true := by decide +kernel
-- 3 is_key: 0=thing
def N_is_key : List Str := ["thing"]
def b_is_key : Sx := (.cons (.ret (.call 1 (.cons (.var 0) .nil)))
    .nil)
theorem sc_is_key : FnScope N_is_key d_is_key.ps (defScope d_is_key.st) := ⟨rfl, rfl, rfl, by decide +kernel, rfl, by decide +kernel, by decide +kernel⟩
theorem mt_is_key : mt b_is_key (sc0 fk tb bn cs N_is_key d_is_key.st) (.b (defBody d_is_key.st)) = true := by decide +kernel
-- 4 is_text: 0=thing
def N_is_text : List Str := ["thing"]
def b_is_text : Sx := (.cons (.ret (.and (.isi (.var 0) .tup) (.and (.cmp .eq (.bi .len (.var 0)) (.cst (.int 2))) (.and (.call 2 (.cons (.idx (.var 0) (.cst (.int 0))) .nil)) (.call 1 (.cons (.idx (.var 0) (.cst (.int 1))) .nil))))))
    .nil)
theorem sc_is_text : FnScope N_is_text d_is_text.ps (defScope d_is_text.st) := ⟨rfl, rfl, rfl, by decide +kernel, rfl, by decide +kernel, by decide +kernel⟩
theorem mt_is_text : mt b_is_text (sc0 fk tb bn cs N_is_text d_is_text.st) (.b (defBody d_is_text.st)) = true := by decide +kernel
-- 5 is_thing: 0=thing
def N_is_thing : List Str := ["thing"]
def b_is_thing : Sx := (.cons (.ret (.or (.call 3 (.cons (.var 0) .nil)) (.call 4 (.cons (.var 0) .nil))))
    .nil)
theorem sc_is_thing : FnScope N_is_thing d_is_thing.ps (defScope d_is_thing.st) := ⟨rfl, rfl, rfl, by decide +kernel, rfl, by decide +kernel, by decide +kernel⟩
theorem mt_is_thing : mt b_is_thing (sc0 fk tb bn cs N_is_thing d_is_thing.st) (.b (defBody d_is_thing.st)) = true := by decide +kernel
-- 6 rises: 0=values 1=one 2=other
def N_rises : List Str := ["values", "one", "other"]
def b_rises : Sx := (.cons (.ret (.bi .all (.lc [1, 2] (.tup (.cons (.var 1) (.cons (.var 2) .nil))) (.zip (.var 0) (.sl (.var 0) (.cst (.int 1)) .none_)) .none_ (.cmp .lt (.var 1) (.var 2)))))
    .nil)
theorem sc_rises : FnScope N_rises d_rises.ps (defScope d_rises.st) := ⟨rfl, rfl, rfl, by decide +kernel, rfl, by decide +kernel, by decide +kernel⟩
theorem mt_rises : mt b_rises (sc0 fk tb bn cs N_rises d_rises.st) (.b (defBody d_rises.st)) = true := by decide +kernel
-- 7 is_rising: 0=thing 1=check 2=own
def N_is_rising : List Str := ["thing", "check", "own"]
def b_is_rising : Sx := (.cons (.ret (.and (.isi (.var 0) .tup) (.and (.bi .all (.lc [2] (.var 2) (.var 0) .none_ (.callv 1 (.cons (.var 2) .nil)))) (.call 6 (.cons (.var 0) .nil)))))
    .nil)
theorem sc_is_rising : FnScope N_is_rising d_is_rising.ps (defScope d_is_rising.st) := ⟨rfl, rfl, rfl, by decide +kernel, rfl, by decide +kernel, by decide +kernel⟩
theorem mt_is_rising : mt b_is_rising (sc0 fk tb bn cs N_is_rising d_is_rising.st) (.b (defBody d_is_rising.st)) = true := by decide +kernel
-- 8 is_keys: 0=thing
def N_is_keys : List Str := ["thing"]
def b_is_keys : Sx := (.cons (.ret (.call 7 (.cons (.var 0) (.cons (.fref "is_key" 3) .nil))))
    .nil)
theorem sc_is_keys : FnScope N_is_keys d_is_keys.ps (defScope d_is_keys.st) := ⟨rfl, rfl, rfl, by decide +kernel, rfl, by decide +kernel, by decide +kernel⟩
theorem mt_is_keys : mt b_is_keys (sc0 fk tb bn cs N_is_keys d_is_keys.st) (.b (defBody d_is_keys.st)) = true := by decide +kernel
-- 9 is_box: 0=thing
def N_is_box : List Str := ["thing"]
def b_is_box : Sx := (.cons (.iff (.or (.nt (.isi (.var 0) .tup)) (.or (.cmp .ne (.bi .len (.var 0)) (.cst (.int 2))) (.or (.nt (.call 5 (.cons (.idx (.var 0) (.cst (.int 0))) .nil))) (.nt (.call 8 (.cons (.idx (.var 0) (.cst (.int 1))) .nil)))))) (.cons (.ret (.cst (.bool false)))
    .nil) .nil)
    (.cons (.ret (.and (.cmp .ne (.idx (.var 0) (.cst (.int 1))) (.tup .nil)) (.cmp .notin (.idx (.var 0) (.cst (.int 0))) (.idx (.var 0) (.cst (.int 1))))))
    .nil))
theorem sc_is_box : FnScope N_is_box d_is_box.ps (defScope d_is_box.st) := ⟨rfl, rfl, rfl, by decide +kernel, rfl, by decide +kernel, by decide +kernel⟩
theorem mt_is_box : mt b_is_box (sc0 fk tb bn cs N_is_box d_is_box.st) (.b (defBody d_is_box.st)) = true := by decide +kernel
-- 10 is_boxes: 0=thing 1=own
def N_is_boxes : List Str := ["thing", "own"]
def b_is_boxes : Sx := (.cons (.ret (.and (.isi (.var 0) .tup) (.bi .all (.lc [1] (.var 1) (.var 0) .none_ (.call 9 (.cons (.var 1) .nil))))))
    .nil)
theorem sc_is_boxes : FnScope N_is_boxes d_is_boxes.ps (defScope d_is_boxes.st) := ⟨rfl, rfl, rfl, by decide +kernel, rfl, by decide +kernel, by decide +kernel⟩
theorem mt_is_boxes : mt b_is_boxes (sc0 fk tb bn cs N_is_boxes d_is_boxes.st) (.b (defBody d_is_boxes.st)) = true := by decide +kernel
-- 11 is_hand: 0=thing
def N_is_hand : List Str := ["thing"]
def b_is_hand : Sx := (.cons (.iff (.or (.nt (.isi (.var 0) .tup)) (.or (.cmp .ne (.bi .len (.var 0)) (.cst (.int 2))) (.nt (.call 2 (.cons (.idx (.var 0) (.cst (.int 0))) .nil))))) (.cons (.ret (.cst (.bool false)))
    .nil) .nil)
    (.cons (.ret (.and (.cmp .ne (.idx (.var 0) (.cst (.int 0))) (.glob "WORLD" (.str "world"))) (.call 8 (.cons (.idx (.var 0) (.cst (.int 1))) .nil))))
    .nil))
theorem sc_is_hand : FnScope N_is_hand d_is_hand.ps (defScope d_is_hand.st) := ⟨rfl, rfl, rfl, by decide +kernel, rfl, by decide +kernel, by decide +kernel⟩
theorem mt_is_hand : mt b_is_hand (sc0 fk tb bn cs N_is_hand d_is_hand.st) (.b (defBody d_is_hand.st)) = true := by decide +kernel
-- 12 is_shelf: 0=thing 1=own
def N_is_shelf : List Str := ["thing", "own"]
def b_is_shelf : Sx := (.cons (.iff (.or (.nt (.isi (.var 0) .tup)) (.or (.cmp .ne (.bi .len (.var 0)) (.cst (.int 2))) (.nt (.isi (.idx (.var 0) (.cst (.int 0))) .tup)))) (.cons (.ret (.cst (.bool false)))
    .nil) .nil)
    (.cons (.iff (.or (.nt (.bi .all (.lc [1] (.var 1) (.idx (.var 0) (.cst (.int 0))) .none_ (.call 11 (.cons (.var 1) .nil))))) (.nt (.call 6 (.cons (.lc [1] (.var 1) (.idx (.var 0) (.cst (.int 0))) .none_ (.idx (.var 1) (.cst (.int 0)))) .nil)))) (.cons (.ret (.cst (.bool false)))
    .nil) .nil)
    (.cons (.ret (.call 10 (.cons (.idx (.var 0) (.cst (.int 1))) .nil)))
    .nil)))
theorem sc_is_shelf : FnScope N_is_shelf d_is_shelf.ps (defScope d_is_shelf.st) := ⟨rfl, rfl, rfl, by decide +kernel, rfl, by decide +kernel, by decide +kernel⟩
theorem mt_is_shelf : mt b_is_shelf (sc0 fk tb bn cs N_is_shelf d_is_shelf.st) (.b (defBody d_is_shelf.st)) = true := by decide +kernel
-- 14 _law_draw: 0=_law_feed_here 1=_law_many 2=_law_digit 3=_law_spot 4=_law_cell 5=_law_mixed
def N_law_draw : List Str := ["_law_feed_here", "_law_many", "_law_digit", "_law_spot", "_law_cell", "_law_mixed"]
def b_law_draw : Sx := (.cons (.fput 0 3 (.bin .add (.fld 0 3) (.cst (.int 1))))
    (.cons (.iff (.cmp .gt (.fld 0 2) (.cst (.int 0))) (.cons (.asg (.var 2) (.bin .mod (.bi .int (.fld 0 2)) (.var 1)))
    (.cons (.fput 0 2 (.bin .fdiv (.fld 0 2) (.var 1)))
    (.cons (.ret (.var 2))
    .nil))) .nil)
    (.cons (.asg (.var 3) (.fld 0 1))
    (.cons (.fput 0 1 (.bin .add (.var 3) (.cst (.int 1))))
    (.cons (.asg (.var 4) (.ifx (.cmp .ne (.fcl 0) (.lst .nil)) (.idx (.fcl 0) (.bin .mod (.bi .int (.var 3)) (.bi .len (.fcl 0)))) (.cst (.int 59))))
    (.cons (.iff (.and (.cmp .ge (.var 4) (.bin .pow (.cst (.int 10)) (.cst (.int 18)))) (.cmp .lt (.var 3) (.bi .len (.fcl 0)))) (.cons (.fput 0 2 (.bin .fdiv (.var 4) (.var 1)))
    (.cons (.ret (.bin .mod (.bi .int (.var 4)) (.var 1)))
    .nil)) .nil)
    (.cons (.asg (.var 5) (.bin .mod (.bi .int (.bin .add (.bin .add (.bin .mod (.bi .int (.var 4)) (.cst (.int 1000000427))) (.bin .mul (.cst (.int 130003)) (.fld 0 3))) (.cst (.int 61)))) (.cst (.int 2147483399))))
    (.cons (.asg (.var 5) (.bin .mod (.bi .int (.bin .add (.bin .add (.bin .mul (.var 5) (.var 5)) (.bin .mul (.cst (.int 3900017)) (.fld 0 3))) (.cst (.int 29)))) (.cst (.int 2147483353))))
    (.cons (.ret (.bin .mod (.bi .int (.bin .fdiv (.bin .mod (.bi .int (.bin .add (.bin .mul (.var 5) (.var 5)) (.bin .mul (.cst (.int 97)) (.var 5)))) (.cst (.int 2147483323))) (.cst (.int 16)))) (.var 1)))
    .nil)))))))))
theorem sc_law_draw : FnScope N_law_draw d_law_draw.ps (defScope d_law_draw.st) := ⟨rfl, rfl, rfl, by decide +kernel, rfl, by decide +kernel, by decide +kernel⟩
theorem mt_law_draw : mt b_law_draw (sc0 fk tb bn cs N_law_draw d_law_draw.st) (.b (defBody d_law_draw.st)) = true := by decide +kernel
-- 15 _law_key: 0=_law_item
def N_law_key : List Str := ["_law_item"]
def b_law_key : Sx := (.cons (.ret (.and (.isi (.var 0) .int) (.and (.nt (.isi (.var 0) .bool)) (.cmp .ge (.var 0) (.cst (.int 0))))))
    .nil)
theorem sc_law_key : FnScope N_law_key d_law_key.ps (defScope d_law_key.st) := ⟨rfl, rfl, rfl, by decide +kernel, rfl, by decide +kernel, by decide +kernel⟩
theorem mt_law_key : mt b_law_key (sc0 fk tb bn cs N_law_key d_law_key.st) (.b (defBody d_law_key.st)) = true := by decide +kernel
-- 16 _law_named: 0=_law_item 1=_law_sign
def N_law_named : List Str := ["_law_item", "_law_sign"]
def b_law_named : Sx := (.cons (.iff (.or (.nt (.isi (.var 0) .str)) (.nt (.chain .lt .lt (.cst (.int 0)) (.bi .len (.var 0)) (.cst (.int 9))))) (.cons (.ret (.cst (.bool false)))
    .nil) .nil)
    (.cons (.ret (.cmp .eq (.lc [1] (.var 1) (.var 0) (.nt (.chain .le .le (.cst (.int 97)) (.bi .ord (.var 1)) (.cst (.int 122)))) (.var 1)) (.lst .nil)))
    .nil))
theorem sc_law_named : FnScope N_law_named d_law_named.ps (defScope d_law_named.st) := ⟨rfl, rfl, rfl, by decide +kernel, rfl, by decide +kernel, by decide +kernel⟩
theorem mt_law_named : mt b_law_named (sc0 fk tb bn cs N_law_named d_law_named.st) (.b (defBody d_law_named.st)) = true := by decide +kernel
-- 17 _law_page: 0=_law_item
def N_law_page : List Str := ["_law_item"]
def b_law_page : Sx := (.cons (.ret (.and (.isi (.var 0) .tup) (.and (.cmp .eq (.bi .len (.var 0)) (.cst (.int 2))) (.and (.call 16 (.cons (.idx (.var 0) (.cst (.int 0))) .nil)) (.call 15 (.cons (.idx (.var 0) (.cst (.int 1))) .nil))))))
    .nil)
theorem sc_law_page : FnScope N_law_page d_law_page.ps (defScope d_law_page.st) := ⟨rfl, rfl, rfl, by decide +kernel, rfl, by decide +kernel, by decide +kernel⟩
theorem mt_law_page : mt b_law_page (sc0 fk tb bn cs N_law_page d_law_page.st) (.b (defBody d_law_page.st)) = true := by decide +kernel
-- 18 _law_rises: 0=_law_some 1=_law_k
def N_law_rises : List Str := ["_law_some", "_law_k"]
def b_law_rises : Sx := (.cons (.ret (.cmp .eq (.lc [1] (.var 1) (.rng2 (.cst (.int 1)) (.bi .len (.var 0))) (.cmp .ge (.idx (.var 0) (.bin .sub (.var 1) (.cst (.int 1)))) (.idx (.var 0) (.var 1))) (.var 1)) (.lst .nil)))
    .nil)
theorem sc_law_rises : FnScope N_law_rises d_law_rises.ps (defScope d_law_rises.st) := ⟨rfl, rfl, rfl, by decide +kernel, rfl, by decide +kernel, by decide +kernel⟩
theorem mt_law_rises : mt b_law_rises (sc0 fk tb bn cs N_law_rises d_law_rises.st) (.b (defBody d_law_rises.st)) = true := by decide +kernel
-- 19 _law_keyed: 0=_law_item 1=_law_one
def N_law_keyed : List Str := ["_law_item", "_law_one"]
def b_law_keyed : Sx := (.cons (.ret (.and (.isi (.var 0) .tup) (.and (.cmp .eq (.lc [1] (.var 1) (.var 0) (.nt (.call 15 (.cons (.var 1) .nil))) (.var 1)) (.lst .nil)) (.call 18 (.cons (.var 0) .nil)))))
    .nil)
theorem sc_law_keyed : FnScope N_law_keyed d_law_keyed.ps (defScope d_law_keyed.st) := ⟨rfl, rfl, rfl, by decide +kernel, rfl, by decide +kernel, by decide +kernel⟩
theorem mt_law_keyed : mt b_law_keyed (sc0 fk tb bn cs N_law_keyed d_law_keyed.st) (.b (defBody d_law_keyed.st)) = true := by decide +kernel
-- 20 _law_boxed: 0=_law_item
def N_law_boxed : List Str := ["_law_item"]
def b_law_boxed : Sx := (.cons (.iff (.or (.nt (.isi (.var 0) .tup)) (.or (.cmp .ne (.bi .len (.var 0)) (.cst (.int 2))) (.or (.nt (.call 19 (.cons (.idx (.var 0) (.cst (.int 1))) .nil))) (.cmp .eq (.idx (.var 0) (.cst (.int 1))) (.tup .nil))))) (.cons (.ret (.cst (.bool false)))
    .nil) .nil)
    (.cons (.ret (.or (.call 17 (.cons (.idx (.var 0) (.cst (.int 0))) .nil)) (.and (.call 15 (.cons (.idx (.var 0) (.cst (.int 0))) .nil)) (.cmp .notin (.idx (.var 0) (.cst (.int 0))) (.idx (.var 0) (.cst (.int 1)))))))
    .nil))
theorem sc_law_boxed : FnScope N_law_boxed d_law_boxed.ps (defScope d_law_boxed.st) := ⟨rfl, rfl, rfl, by decide +kernel, rfl, by decide +kernel, by decide +kernel⟩
theorem mt_law_boxed : mt b_law_boxed (sc0 fk tb bn cs N_law_boxed d_law_boxed.st) (.b (defBody d_law_boxed.st)) = true := by decide +kernel
-- 21 _law_grip: 0=_law_feed_here 1=_law_many 2=_law_most 3=_law_pool 4=_law_found 5=_law_k
def N_law_grip : List Str := ["_law_feed_here", "_law_many", "_law_most", "_law_pool", "_law_found", "_law_k"]
def b_law_grip : Sx := (.cons (.par 3 true (.lrng (.var 1)) 4 true (.lst .nil))
    (.cons (.forS (.var 5) (.rng1 (.call 14 (.cons (.var 0) (.cons (.bin .add (.var 2) (.cst (.int 1))) .nil)))) (.cons (.appPop 4 3 (.call 14 (.cons (.var 0) (.cons (.bi .len (.var 3)) .nil))))
    .nil))
    (.cons (.ret (.bi .tup (.bi .srt (.var 4))))
    .nil)))
theorem sc_law_grip : FnScope N_law_grip d_law_grip.ps (defScope d_law_grip.st) := ⟨rfl, rfl, rfl, by decide +kernel, rfl, by decide +kernel, by decide +kernel⟩
theorem mt_law_grip : mt b_law_grip (sc0 fk tb bn cs N_law_grip d_law_grip.st) (.b (defBody d_law_grip.st)) = true := by decide +kernel
-- 22 _law_lot: 0=_law_feed_here 1=_law_size 2=_law_many 3=_law_found 4=_law_k 5=_law_goal 6=_law_pool 7=_law_some 8=_law_key_in 9=_law_near 10=_law_one 11=_law_j 12=_law_menu
def N_law_lot : List Str := ["_law_feed_here", "_law_size", "_law_many", "_law_found", "_law_k", "_law_goal", "_law_pool", "_law_some", "_law_key_in", "_law_near", "_law_one", "_law_j", "_law_menu"]
def b_law_lot : Sx := (.cons (.asgO 3 (.lst .nil))
    (.cons (.forS (.var 4) (.rng1 (.var 1)) (.cons (.iff (.and (.cmp .ne (.var 3) (.lst .nil)) (.cmp .eq (.call 14 (.cons (.var 0) (.cons (.cst (.int 9)) .nil))) (.cst (.int 0)))) (.cons (.app 3 (.idx (.var 3) (.call 14 (.cons (.var 0) (.cons (.bi .len (.var 3)) .nil)))))
    (.cons .cont
    .nil)) .nil)
    (.cons (.asg (.var 5) (.call 14 (.cons (.var 0) (.cons (.var 2) .nil))))
    (.cons (.iff (.cmp .eq (.call 14 (.cons (.var 0) (.cons (.cst (.int 4)) .nil))) (.cst (.int 0))) (.cons (.asg (.var 5) (.tup (.cons (.idx (.lst (.cons (.cst (.str "memo")) (.cons (.cst (.str "a")) (.cons (.cst (.str "world")) .nil)))) (.call 14 (.cons (.var 0) (.cons (.cst (.int 3)) .nil)))) (.cons (.call 14 (.cons (.var 0) (.cons (.cst (.int 2)) .nil))) .nil))))
    .nil) .nil)
    (.cons (.par 6 true (.lc [8] (.var 8) (.rng1 (.var 2)) (.cmp .ne (.var 8) (.var 5)) (.var 8)) 7 true (.lst .nil))
    (.cons (.asg (.var 9) (.bin .add (.lst (.cons (.cst (.int 0)) (.cons (.cst (.int 1)) .nil))) (.lc [10] (.var 10) (.var 3) .none_ (.idx (.var 10) (.cst (.int 0))))))
    (.cons (.forS (.var 11) (.rng1 (.idx (.lst (.cons (.cst (.int 1)) (.cons (.cst (.int 1)) (.cons (.cst (.int 1)) (.cons (.cst (.int 2)) (.cons (.cst (.int 2)) (.cons (.cst (.int 3)) .nil))))))) (.call 14 (.cons (.var 0) (.cons (.cst (.int 6)) .nil))))) (.cons (.bor 12 6 (.cmp .gt (.call 14 (.cons (.var 0) (.cons (.cst (.int 4)) .nil))) (.cst (.int 0))) (.lc [8] (.var 8) (.var 6) (.cmp .isin (.var 8) (.var 9)) (.var 8)))
    (.cons (.app 7 (.ifx (.cmp .ne (.var 12) (.lst .nil)) (.idx (.var 12) (.call 14 (.cons (.var 0) (.cons (.bi .len (.var 12)) .nil)))) (.idx (.var 6) (.cst (.int 0)))))
    (.cons (.rmv 6 (.idx (.var 7) (.neg (.cst (.int 1)))))
    .nil))))
    (.cons (.app 3 (.tup (.cons (.var 5) (.cons (.bi .tup (.bi .srt (.var 7))) .nil))))
    .nil))))))))
    (.cons (.ret (.biIf .tup (.cmp .eq (.call 14 (.cons (.var 0) (.cons (.cst (.int 2)) .nil))) (.cst (.int 0))) (.rev (.var 3)) (.var 3)))
    .nil)))
theorem sc_law_lot : FnScope N_law_lot d_law_lot.ps (defScope d_law_lot.st) := ⟨rfl, rfl, rfl, by decide +kernel, rfl, by decide +kernel, by decide +kernel⟩
theorem mt_law_lot : mt b_law_lot (sc0 fk tb bn cs N_law_lot d_law_lot.st) (.b (defBody d_law_lot.st)) = true := by decide +kernel
-- 23 _law_odd: 0=_law_feed_here 1=_law_odd_here
def N_law_odd : List Str := ["_law_feed_here", "_law_odd_here"]
def b_law_odd : Sx := (.cons (.asg (.var 1) (.lst (.cons (.cst .none) (.cons (.cst (.bool true)) (.cons (.cst (.bool false)) (.cons (.cst (.int 0)) (.cons (.neg (.cst (.int 1))) (.cons (.cst (.int 1)) (.cons (.cst (.str "")) (.cons (.cst (.str "a")) (.cons (.cst (.str "world")) (.cons (.tup .nil) (.cons (.lst .nil) (.cons (.tup (.cons (.tup .nil) (.cons (.tup .nil) .nil))) (.cons (.tup (.cons (.cst (.str "memo")) (.cons (.cst (.int 0)) .nil))) (.cons (.cst (.int 9)) (.cons (.tup (.cons (.cst (.int 0)) .nil)) (.cons (.tup (.cons (.cst (.str "a")) .nil)) .nil))))))))))))))))))
    (.cons (.ret (.idx (.var 1) (.call 14 (.cons (.var 0) (.cons (.cst (.int 16)) .nil)))))
    .nil))
theorem sc_law_odd : FnScope N_law_odd d_law_odd.ps (defScope d_law_odd.st) := ⟨rfl, rfl, rfl, by decide +kernel, rfl, by decide +kernel, by decide +kernel⟩
theorem mt_law_odd : mt b_law_odd (sc0 fk tb bn cs N_law_odd d_law_odd.st) (.b (defBody d_law_odd.st)) = true := by decide +kernel
-- 24 _law_bent: 0=_law_feed_here 1=_law_item 2=_law_spot 3=_law_way 4=_law_some
def N_law_bent : List Str := ["_law_feed_here", "_law_item", "_law_spot", "_law_way", "_law_some"]
def b_law_bent : Sx := (.cons (.iff (.and (.isi (.var 1) .tup) (.and (.cmp .ne (.var 1) (.tup .nil)) (.cmp .gt (.call 14 (.cons (.var 0) (.cons (.cst (.int 5)) .nil))) (.cst (.int 0))))) (.cons (.asg (.var 2) (.call 14 (.cons (.var 0) (.cons (.bi .len (.var 1)) .nil))))
    (.cons (.ret (.bin .add (.bin .add (.sl (.var 1) .none_ (.var 2)) (.tup (.cons (.call 24 (.cons (.var 0) (.cons (.idx (.var 1) (.var 2)) .nil))) .nil))) (.sl (.var 1) (.bin .add (.var 2) (.cst (.int 1))) .none_)))
    .nil)) .nil)
    (.cons (.asg (.var 3) (.call 14 (.cons (.var 0) (.cons (.cst (.int 9)) .nil))))
    (.cons (.iff (.and (.isi (.var 1) .tup) (.cmp .lt (.var 3) (.cst (.int 7)))) (.cons (.asg (.var 4) (.lst (.cons (.bi .lst (.var 1)) (.cons (.sl (.var 1) (.cst (.int 1)) .none_) (.cons (.sl (.var 1) .none_ (.neg (.cst (.int 1)))) (.cons (.bin .add (.var 1) (.sl (.var 1) (.neg (.cst (.int 1))) .none_)) .nil))))))
    (.cons (.ret (.idx (.bin .add (.var 4) (.lst (.cons (.rev (.var 1)) (.cons (.tup (.cons (.var 1) .nil)) (.cons (.bin .add (.var 1) (.tup (.cons (.cst .none) .nil))) .nil))))) (.var 3)))
    .nil)) .nil)
    (.cons (.iff (.and (.isi (.var 1) .str) (.cmp .lt (.var 3) (.cst (.int 6)))) (.cons (.ret (.idx (.lst (.cons (.bin .add (.var 1) (.cst (.str "a"))) (.cons (.sl (.var 1) .none_ (.neg (.cst (.int 1)))) (.cons (.upper (.var 1)) (.cons (.bin .add (.var 1) (.cst (.str " "))) (.cons (.lst (.cons (.var 1) .nil)) (.cons (.bin .add (.var 1) (.cst (.str "abcdefgh"))) .nil))))))) (.var 3)))
    .nil) .nil)
    (.cons (.iff (.and (.isi (.var 1) .int) (.cmp .lt (.var 3) (.cst (.int 6)))) (.cons (.ret (.idx (.lst (.cons (.bin .add (.var 1) (.cst (.int 1))) (.cons (.bin .sub (.var 1) (.cst (.int 1))) (.cons (.cmp .eq (.var 1) (.cst (.int 1))) (.cons (.bi .str (.var 1)) (.cons (.bin .sub (.cst (.int 0)) (.var 1)) (.cons (.lst (.cons (.var 1) .nil)) .nil))))))) (.var 3)))
    .nil) .nil)
    (.cons (.ret (.call 23 (.cons (.var 0) .nil)))
    .nil))))))
theorem sc_law_bent : FnScope N_law_bent d_law_bent.ps (defScope d_law_bent.st) := ⟨rfl, rfl, rfl, by decide +kernel, rfl, by decide +kernel, by decide +kernel⟩
theorem mt_law_bent : mt b_law_bent (sc0 fk tb bn cs N_law_bent d_law_bent.st) (.b (defBody d_law_bent.st)) = true := by decide +kernel
-- 25 _law_shelved: 0=_law_item 1=_law_one 2=_law_names
def N_law_shelved : List Str := ["_law_item", "_law_one", "_law_names"]
def b_law_shelved : Sx := (.cons (.iff (.or (.nt (.isi (.var 0) .tup)) (.cmp .ne (.bi .len (.var 0)) (.cst (.int 2)))) (.cons (.ret (.cst (.bool false)))
    .nil) .nil)
    (.cons (.iff (.or (.nt (.isi (.idx (.var 0) (.cst (.int 0))) .tup)) (.nt (.isi (.idx (.var 0) (.cst (.int 1))) .tup))) (.cons (.ret (.cst (.bool false)))
    .nil) .nil)
    (.cons (.forS (.var 1) (.idx (.var 0) (.cst (.int 0))) (.cons (.iff (.or (.nt (.isi (.var 1) .tup)) (.or (.cmp .ne (.bi .len (.var 1)) (.cst (.int 2))) (.or (.nt (.call 16 (.cons (.idx (.var 1) (.cst (.int 0))) .nil))) (.nt (.call 19 (.cons (.idx (.var 1) (.cst (.int 1))) .nil)))))) (.cons (.ret (.cst (.bool false)))
    .nil) .nil)
    .nil))
    (.cons (.asg (.var 2) (.lc [1] (.var 1) (.idx (.var 0) (.cst (.int 0))) .none_ (.idx (.var 1) (.cst (.int 0)))))
    (.cons (.ret (.and (.call 18 (.cons (.var 2) .nil)) (.and (.cmp .notin (.cst (.str "world")) (.var 2)) (.cmp .eq (.lc [1] (.var 1) (.idx (.var 0) (.cst (.int 1))) (.nt (.call 20 (.cons (.var 1) .nil))) (.var 1)) (.lst .nil)))))
    .nil)))))
theorem sc_law_shelved : FnScope N_law_shelved d_law_shelved.ps (defScope d_law_shelved.st) := ⟨rfl, rfl, rfl, by decide +kernel, rfl, by decide +kernel, by decide +kernel⟩
theorem mt_law_shelved : mt b_law_shelved (sc0 fk tb bn cs N_law_shelved d_law_shelved.st) (.b (defBody d_law_shelved.st)) = true := by decide +kernel
-- 26 _law_right: 0=_law_item 1=_law_boxed_here 2=_law_one 3=_law_due_in 4=_law_told
def N_law_right : List Str := ["_law_item", "_law_boxed_here", "_law_one", "_law_due_in", "_law_told"]
def b_law_right : Sx := (.cons (.asg (.var 1) (.and (.isi (.var 0) .tup) (.cmp .eq (.lc [2] (.var 2) (.var 0) (.nt (.call 20 (.cons (.var 2) .nil))) (.var 2)) (.lst .nil))))
    (.cons (.asgO 3 (.lst (.cons (.call 16 (.cons (.var 0) .nil)) (.cons (.call 15 (.cons (.var 0) .nil)) (.cons (.call 17 (.cons (.var 0) .nil)) (.cons (.or (.call 17 (.cons (.var 0) .nil)) (.call 15 (.cons (.var 0) .nil))) (.cons (.call 19 (.cons (.var 0) .nil)) .nil)))))))
    (.cons (.asg (.var 4) (.lst (.cons (.call 2 (.cons (.var 0) .nil)) (.cons (.call 3 (.cons (.var 0) .nil)) (.cons (.call 4 (.cons (.var 0) .nil)) (.cons (.call 5 (.cons (.var 0) .nil)) (.cons (.call 8 (.cons (.var 0) .nil)) .nil)))))))
    (.cons (.ext 3 (.lst (.cons (.call 20 (.cons (.var 0) .nil)) (.cons (.var 1) (.cons (.call 25 (.cons (.var 0) .nil)) .nil)))))
    (.cons (.ret (.cmp .eq (.bi .repr (.bin .add (.var 4) (.lst (.cons (.call 9 (.cons (.var 0) .nil)) (.cons (.call 10 (.cons (.var 0) .nil)) (.cons (.call 12 (.cons (.var 0) .nil)) .nil)))))) (.bi .repr (.var 3))))
    .nil)))))
theorem sc_law_right : FnScope N_law_right d_law_right.ps (defScope d_law_right.st) := ⟨rfl, rfl, rfl, by decide +kernel, rfl, by decide +kernel, by decide +kernel⟩
theorem mt_law_right : mt b_law_right (sc0 fk tb bn cs N_law_right d_law_right.st) (.b (defBody d_law_right.st)) = true := by decide +kernel
-- 27 _law_values: 0=_law_far 1=_law_found 2=_law_hands 3=_law_name 4=_law_many
def N_law_values : List Str := ["_law_far", "_law_found", "_law_hands", "_law_name", "_law_many"]
def b_law_values : Sx := (.cons (.asg (.var 0) (.bin .pow (.cst (.int 10)) (.cst (.int 59))))
    (.cons (.asgO 1 (.lst (.cons (.cst (.int 0)) (.cons (.cst (.int 1)) (.cons (.neg (.cst (.int 1))) (.cons (.var 0) (.cons (.neg (.var 0)) (.cons (.cst (.bool true)) (.cons (.cst (.bool false)) (.cons (.cst .none) (.cons (.cst (.str "")) (.cons (.cst (.str "a")) (.cons (.cst (.str "world")) (.cons (.cst (.str "abcdefgh")) (.cons (.cst (.str "abcdefghi")) (.cons (.cst (.str "A")) (.cons (.cst (.str "a b")) (.cons (.cst (.str "a1")) (.cons (.cst (.str "`")) .nil)))))))))))))))))))
    (.cons (.ext 1 (.lst (.cons (.tup .nil) (.cons (.lst .nil) (.cons (.tup (.cons (.cst (.int 1)) .nil)) (.cons (.tup (.cons (.cst (.int 0)) (.cons (.var 0) .nil))) (.cons (.tup (.cons (.cst (.int 2)) (.cons (.cst (.int 1)) .nil))) (.cons (.tup (.cons (.cst (.int 1)) (.cons (.cst (.int 1)) .nil))) (.cons (.tup (.cons (.cst (.bool true)) .nil)) (.cons (.tup (.cons (.cst (.int 0)) (.cons (.neg (.cst (.int 1))) .nil))) (.cons (.lst (.cons (.cst (.int 1)) (.cons (.cst (.int 2)) .nil))) (.cons (.tup (.cons (.cst (.int 1)) (.cons (.cst .none) .nil))) (.cons (.tup (.cons (.cst (.int 1)) (.cons (.cst (.str "a")) .nil))) (.cons (.tup (.cons (.cst (.str "a")) .nil)) .nil))))))))))))))
    (.cons (.ext 1 (.lst (.cons (.tup (.cons (.cst (.str "a")) (.cons (.cst (.int 0)) .nil))) (.cons (.tup (.cons (.cst (.str "a")) (.cons (.cst (.int 1)) .nil))) (.cons (.tup (.cons (.cst (.str "world")) (.cons (.cst (.int 0)) .nil))) (.cons (.tup (.cons (.cst (.str "a")) (.cons (.neg (.cst (.int 1))) .nil))) (.cons (.tup (.cons (.cst (.str "a")) (.cons (.cst (.bool true)) .nil))) (.cons (.tup (.cons (.cst (.str "A")) (.cons (.cst (.int 0)) .nil))) (.cons (.tup (.cons (.cst (.str "")) (.cons (.cst (.int 0)) .nil))) (.cons (.tup (.cons (.cst (.str "a")) (.cons (.cst (.int 0)) (.cons (.cst (.int 0)) .nil)))) (.cons (.lst (.cons (.cst (.str "a")) (.cons (.cst (.int 0)) .nil))) .nil)))))))))))
    (.cons (.ext 1 (.lst (.cons (.tup (.cons (.cst (.str "a")) (.cons (.var 0) .nil))) (.cons (.tup (.cons (.cst (.int 0)) (.cons (.cst (.str "a")) .nil))) (.cons (.tup (.cons (.cst (.str "a")) (.cons (.cst .none) .nil))) (.cons (.tup (.cons (.cst (.int 1)) (.cons (.tup (.cons (.cst (.int 0)) .nil)) .nil))) (.cons (.tup (.cons (.cst (.int 1)) (.cons (.tup (.cons (.cst (.int 1)) .nil)) .nil))) (.cons (.tup (.cons (.cst (.int 1)) (.cons (.tup (.cons (.cst (.int 0)) (.cons (.cst (.int 1)) .nil))) .nil))) .nil))))))))
    (.cons (.ext 1 (.lst (.cons (.tup (.cons (.cst (.int 1)) (.cons (.tup .nil) .nil))) (.cons (.tup (.cons (.cst (.int 1)) (.cons (.tup (.cons (.cst (.int 2)) (.cons (.cst (.int 0)) .nil))) .nil))) (.cons (.tup (.cons (.cst (.int 1)) (.cons (.tup (.cons (.cst (.int 0)) (.cons (.cst (.int 0)) .nil))) .nil))) .nil)))))
    (.cons (.ext 1 (.lst (.cons (.tup (.cons (.tup (.cons (.cst (.str "a")) (.cons (.cst (.int 0)) .nil))) (.cons (.tup (.cons (.cst (.int 0)) .nil)) .nil))) (.cons (.tup (.cons (.tup (.cons (.cst (.str "a")) (.cons (.cst (.int 0)) .nil))) (.cons (.tup (.cons (.cst (.int 0)) (.cons (.var 0) .nil))) .nil))) (.cons (.tup (.cons (.tup (.cons (.cst (.str "a")) (.cons (.cst (.int 0)) .nil))) (.cons (.tup .nil) .nil))) (.cons (.tup (.cons (.tup (.cons (.cst (.str "a")) .nil)) (.cons (.tup (.cons (.cst (.int 0)) .nil)) .nil))) (.cons (.tup (.cons (.cst (.str "a")) (.cons (.tup (.cons (.cst (.int 0)) .nil)) .nil))) (.cons (.tup (.cons (.cst .none) (.cons (.tup (.cons (.cst (.int 0)) .nil)) .nil))) .nil))))))))
    (.cons (.ext 1 (.lst (.cons (.tup (.cons (.cst (.bool true)) (.cons (.tup (.cons (.cst (.int 0)) .nil)) .nil))) (.cons (.tup (.cons (.cst (.int 0)) (.cons (.tup (.cons (.cst (.bool true)) .nil)) .nil))) (.cons (.tup (.cons (.cst (.int 1)) (.cons (.lst (.cons (.cst (.int 0)) .nil)) .nil))) (.cons (.lst (.cons (.cst (.int 1)) (.cons (.tup (.cons (.cst (.int 0)) .nil)) .nil))) (.cons (.tup (.cons (.cst (.int 1)) (.cons (.tup (.cons (.cst (.int 0)) .nil)) (.cons (.cst (.int 0)) .nil)))) (.cons (.tup (.cons (.cst (.int 1)) (.cons (.tup (.cons (.neg (.cst (.int 1))) .nil)) .nil))) (.cons (.tup (.cons (.neg (.cst (.int 1))) (.cons (.tup (.cons (.cst (.int 0)) .nil)) .nil))) (.cons (.tup (.cons (.cst (.int 1)) (.cons (.tup (.cons (.cst (.str "a")) .nil)) .nil))) .nil))))))))))
    (.cons (.ext 1 (.lst (.cons (.tup (.cons (.tup (.cons (.cst (.int 1)) (.cons (.tup (.cons (.cst (.int 0)) .nil)) .nil))) .nil)) (.cons (.tup (.cons (.tup (.cons (.cst (.int 1)) (.cons (.tup (.cons (.cst (.int 0)) .nil)) .nil))) (.cons (.tup (.cons (.cst (.int 1)) (.cons (.tup (.cons (.cst (.int 0)) .nil)) .nil))) .nil))) (.cons (.tup (.cons (.tup (.cons (.cst (.int 1)) (.cons (.tup (.cons (.cst (.int 0)) .nil)) .nil))) (.cons (.cst (.int 1)) .nil))) (.cons (.lst (.cons (.tup (.cons (.cst (.int 1)) (.cons (.tup (.cons (.cst (.int 0)) .nil)) .nil))) .nil)) (.cons (.tup (.cons (.tup (.cons (.cst (.int 1)) (.cons (.tup (.cons (.cst (.int 1)) .nil)) .nil))) .nil)) (.cons (.tup (.cons (.tup .nil) (.cons (.tup .nil) .nil))) .nil))))))))
    (.cons (.ext 1 (.lst (.cons (.tup (.cons (.tup (.cons (.tup .nil) (.cons (.tup .nil) .nil))) .nil)) (.cons (.tup (.cons (.tup (.cons (.tup (.cons (.cst (.str "a")) (.cons (.tup .nil) .nil))) .nil)) (.cons (.tup .nil) .nil))) (.cons (.tup (.cons (.tup (.cons (.tup (.cons (.cst (.str "a")) (.cons (.tup (.cons (.cst (.int 0)) .nil)) .nil))) (.cons (.tup (.cons (.cst (.str "b")) (.cons (.tup .nil) .nil))) .nil))) (.cons (.tup (.cons (.tup (.cons (.cst (.int 1)) (.cons (.tup (.cons (.cst (.int 0)) .nil)) .nil))) .nil)) .nil))) (.cons (.tup (.cons (.tup (.cons (.tup (.cons (.cst (.str "world")) (.cons (.tup .nil) .nil))) .nil)) (.cons (.tup .nil) .nil))) .nil))))))
    (.cons (.ext 1 (.lst (.cons (.tup (.cons (.tup (.cons (.tup (.cons (.cst (.str "b")) (.cons (.tup .nil) .nil))) (.cons (.tup (.cons (.cst (.str "a")) (.cons (.tup .nil) .nil))) .nil))) (.cons (.tup .nil) .nil))) (.cons (.tup (.cons (.tup (.cons (.tup (.cons (.cst (.str "a")) (.cons (.tup .nil) .nil))) (.cons (.tup (.cons (.cst (.str "a")) (.cons (.tup .nil) .nil))) .nil))) (.cons (.tup .nil) .nil))) (.cons (.tup (.cons (.tup (.cons (.tup (.cons (.cst (.str "a")) (.cons (.tup (.cons (.cst (.int 1)) (.cons (.cst (.int 0)) .nil))) .nil))) .nil)) (.cons (.tup .nil) .nil))) .nil)))))
    (.cons (.app 1 (.tup (.cons (.tup (.cons (.tup (.cons (.cst (.str "A")) (.cons (.tup .nil) .nil))) .nil)) (.cons (.tup .nil) .nil))))
    (.cons (.ext 1 (.lst (.cons (.tup (.cons (.tup (.cons (.tup (.cons (.cst (.str "a")) (.cons (.lst (.cons (.cst (.int 0)) .nil)) .nil))) .nil)) (.cons (.tup .nil) .nil))) (.cons (.tup (.cons (.lst (.cons (.tup (.cons (.cst (.str "a")) (.cons (.tup (.cons (.cst (.int 0)) .nil)) .nil))) .nil)) (.cons (.tup .nil) .nil))) (.cons (.tup (.cons (.tup (.cons (.tup (.cons (.cst (.str "a")) (.cons (.tup (.cons (.cst (.int 0)) .nil)) .nil))) .nil)) (.cons (.lst (.cons (.tup (.cons (.cst (.int 1)) (.cons (.tup (.cons (.cst (.int 0)) .nil)) .nil))) .nil)) .nil))) .nil)))))
    (.cons (.app 1 (.tup (.cons (.tup (.cons (.tup (.cons (.cst (.str "a")) (.cons (.tup (.cons (.cst (.int 0)) .nil)) .nil))) .nil)) (.cons (.tup (.cons (.tup (.cons (.cst (.int 0)) (.cons (.tup (.cons (.cst (.int 0)) .nil)) .nil))) .nil)) .nil))))
    (.cons (.ext 1 (.lst (.cons (.tup (.cons (.tup (.cons (.lst (.cons (.cst (.str "a")) (.cons (.tup (.cons (.cst (.int 0)) .nil)) .nil))) .nil)) (.cons (.tup .nil) .nil))) (.cons (.tup (.cons (.tup (.cons (.tup (.cons (.cst (.str "a")) (.cons (.tup (.cons (.cst (.int 0)) .nil)) (.cons (.cst (.int 0)) .nil)))) .nil)) (.cons (.tup .nil) .nil))) (.cons (.tup (.cons (.tup (.cons (.tup (.cons (.cst (.str "a")) (.cons (.tup (.cons (.cst (.int 0)) .nil)) .nil))) .nil)) (.cons (.tup .nil) (.cons (.tup .nil) .nil)))) (.cons (.tup (.cons (.tup (.cons (.tup (.cons (.cst (.str "a")) (.cons (.cst .none) .nil))) .nil)) (.cons (.tup .nil) .nil))) .nil))))))
    (.cons (.asg (.var 2) (.bi .tup (.lc [3] (.var 3) (.tup (.cons (.cst (.str "a")) (.cons (.cst (.str "b")) (.cons (.cst (.str "c")) (.cons (.cst (.str "d")) (.cons (.cst (.str "e")) .nil)))))) .none_ (.tup (.cons (.var 3) (.cons (.tup (.cons (.cst (.int 0)) .nil)) .nil))))))
    (.cons (.ext 1 (.lst (.cons (.tup (.cons (.var 2) (.cons (.tup .nil) .nil))) (.cons (.tup (.cons (.bin .add (.sl (.var 2) .none_ (.cst (.int 3))) (.tup (.cons (.idx (.var 2) (.cst (.int 4))) (.cons (.idx (.var 2) (.cst (.int 3))) .nil)))) (.cons (.tup .nil) .nil))) (.cons (.tup (.cons (.bin .add (.var 2) (.sl (.var 2) (.cst (.int 4)) .none_)) (.cons (.tup .nil) .nil))) .nil)))))
    (.cons (.app 1 (.tup (.cons (.bin .add (.sl (.var 2) .none_ (.cst (.int 4))) (.tup (.cons (.tup (.cons (.cst (.str "d")) (.cons (.tup .nil) .nil))) .nil))) (.cons (.tup .nil) .nil))))
    (.cons (.asg (.var 4) (.trng (.cst (.int 60))))
    (.cons (.ext 1 (.lst (.cons (.var 4) (.cons (.bin .add (.var 4) (.tup (.cons (.cst (.int 59)) .nil))) (.cons (.tup (.cons (.cst (.int 60)) (.cons (.var 4) .nil))) (.cons (.tup (.cons (.cst (.int 59)) (.cons (.var 4) .nil))) (.cons (.bin .mul (.tup (.cons (.tup (.cons (.cst (.int 60)) (.cons (.var 4) .nil))) .nil)) (.cst (.int 40))) (.cons (.bin .add (.bin .mul (.tup (.cons (.tup (.cons (.cst (.int 60)) (.cons (.var 4) .nil))) .nil)) (.cst (.int 39))) (.tup (.cons (.tup (.cons (.cst (.int 5)) (.cons (.var 4) .nil))) .nil))) .nil))))))))
    (.cons (.ret (.var 1))
    .nil)))))))))))))))))))))
theorem sc_law_values : FnScope N_law_values d_law_values.ps (defScope d_law_values.st) := ⟨rfl, rfl, rfl, by decide +kernel, rfl, by decide +kernel, by decide +kernel⟩
theorem mt_law_values : mt b_law_values (sc0 fk tb bn cs N_law_values d_law_values.st) (.b (defBody d_law_values.st)) = true := by decide +kernel
-- 28 law: 0=_law_script 1=_law_feed_here 2=_law_items 3=_law_turn 4=_law_lot_here 5=_law_shelf_in 6=_law_item 7=_law_once 8=_law_kept 9=_law_told
def N_law : List Str := ["_law_script", "_law_feed_here", "_law_items", "_law_turn", "_law_lot_here", "_law_shelf_in", "_law_item", "_law_once", "_law_kept", "_law_told"]
def b_law : Sx := (.cons (.asgO 2 (.step (.call 27 .nil) (.call 14 (.cons (.var 1) (.cons (.cst (.int 3)) .nil))) 3))
    (.cons (.forS (.var 3) (.rng1 (.cst (.int 2))) (.cons (.asg (.var 4) (.call 22 (.cons (.var 1) (.cons (.cst (.int 3)) (.cons (.cst (.int 6)) .nil)))))
    (.cons (.asg (.var 5) (.tup (.cons (.tup (.cons (.tup (.cons (.cst (.str "ann")) (.cons (.call 21 (.cons (.var 1) (.cons (.cst (.int 6)) (.cons (.cst (.int 2)) .nil)))) .nil))) (.cons (.tup (.cons (.cst (.str "bob")) (.cons (.call 21 (.cons (.var 1) (.cons (.cst (.int 6)) (.cons (.cst (.int 2)) .nil)))) .nil))) .nil))) (.cons (.var 4) .nil))))
    (.cons (.forS (.var 6) (.tup (.cons (.idx (.var 4) (.cst (.int 0))) (.cons (.var 4) (.cons (.var 5) (.cons (.idx (.var 5) (.cst (.int 0))) (.cons (.call 21 (.cons (.var 1) (.cons (.cst (.int 9)) (.cons (.cst (.int 4)) .nil)))) .nil)))))) (.cons (.asg (.var 7) (.call 24 (.cons (.var 1) (.cons (.var 6) .nil))))
    (.cons (.ext 2 (.lst (.cons (.var 6) (.cons (.var 7) (.cons (.call 24 (.cons (.var 1) (.cons (.var 7) .nil))) .nil)))))
    .nil)))
    .nil))))
    (.cons (.asg (.var 8) (.bi .repr (.var 2)))
    (.cons (.iff (.or (.cmp .ne (.lc [6] (.var 6) (.var 2) (.nt (.call 26 (.cons (.var 6) .nil))) (.var 6)) (.lst .nil)) (.cmp .ne (.bi .repr (.var 2)) (.var 8))) (.cons (.ret (.cst (.bool false)))
    .nil) .nil)
    (.cons (.asgO 9 (.lst (.cons (.callk 2 [0] (.cons (.cst (.str "a")) .nil)) (.cons (.callk 3 [0] (.cons (.cst (.int 3)) .nil)) (.cons (.callk 4 [0] (.cons (.tup (.cons (.cst (.str "a")) (.cons (.cst (.int 0)) .nil))) .nil)) (.cons (.callk 5 [0] (.cons (.cst (.int 0)) .nil)) (.cons (.callk 8 [0] (.cons (.tup .nil) .nil)) .nil)))))))
    (.cons (.ext 9 (.lst (.cons (.callk 9 [0] (.cons (.tup (.cons (.cst (.int 1)) (.cons (.tup (.cons (.cst (.int 0)) .nil)) .nil))) .nil)) (.cons (.callk 10 [0] (.cons (.tup .nil) .nil)) (.cons (.callk 12 [0] (.cons (.tup (.cons (.tup .nil) (.cons (.tup .nil) .nil))) .nil)) .nil)))))
    (.cons (.ret (.cmp .eq (.bi .repr (.var 9)) (.bi .repr (.bin .mul (.lst (.cons (.cst (.bool true)) .nil)) (.cst (.int 8))))))
    .nil)))))))
theorem sc_law : FnScope N_law d_law.ps (defScope d_law.st) := ⟨rfl, rfl, rfl, by decide +kernel, rfl, by decide +kernel, by decide +kernel⟩
theorem mt_law : mt b_law (sc0 fk tb bn cs N_law d_law.st) (.b ((defBody d_law.st).drop 1)) = true := by decide +kernel
theorem bd_is_integer : BdOk d_is_integer := fun _ _ _ _ _ _ us hl => match us, hl with | [_], _ => rfl
theorem kb_is_integer : ∀ q ∈ d_is_integer.kb, KbOk d_is_integer q := fun q hq => absurd hq (by intro z; cases z)
theorem bd_is_number : BdOk d_is_number := fun _ _ _ _ _ _ us hl => match us, hl with | [_], _ => rfl
theorem kb_is_number : ∀ q ∈ d_is_number.kb, KbOk d_is_number q := fun q hq => absurd hq (by intro z; cases z)
theorem bd_is_name : BdOk d_is_name := fun _ _ _ _ _ _ us hl => match us, hl with | [_], _ => rfl
theorem kb_is_name_0 : KbOk d_is_name (["thing"], [0]) := fun _ _ _ _ _ _ us hl => match us, hl with | [_], _ => ⟨_, rfl, rfl⟩
theorem kb_is_name : ∀ q ∈ d_is_name.kb, KbOk d_is_name q := by
  intro q hq
  simp only [d_is_name, List.mem_cons, List.mem_nil_iff, or_false] at hq
  rcases hq with rfl
  · exact kb_is_name_0
theorem bd_is_key : BdOk d_is_key := fun _ _ _ _ _ _ us hl => match us, hl with | [_], _ => rfl
theorem kb_is_key_0 : KbOk d_is_key (["thing"], [0]) := fun _ _ _ _ _ _ us hl => match us, hl with | [_], _ => ⟨_, rfl, rfl⟩
theorem kb_is_key : ∀ q ∈ d_is_key.kb, KbOk d_is_key q := by
  intro q hq
  simp only [d_is_key, List.mem_cons, List.mem_nil_iff, or_false] at hq
  rcases hq with rfl
  · exact kb_is_key_0
theorem bd_is_text : BdOk d_is_text := fun _ _ _ _ _ _ us hl => match us, hl with | [_], _ => rfl
theorem kb_is_text_0 : KbOk d_is_text (["thing"], [0]) := fun _ _ _ _ _ _ us hl => match us, hl with | [_], _ => ⟨_, rfl, rfl⟩
theorem kb_is_text : ∀ q ∈ d_is_text.kb, KbOk d_is_text q := by
  intro q hq
  simp only [d_is_text, List.mem_cons, List.mem_nil_iff, or_false] at hq
  rcases hq with rfl
  · exact kb_is_text_0
theorem bd_is_thing : BdOk d_is_thing := fun _ _ _ _ _ _ us hl => match us, hl with | [_], _ => rfl
theorem kb_is_thing_0 : KbOk d_is_thing (["thing"], [0]) := fun _ _ _ _ _ _ us hl => match us, hl with | [_], _ => ⟨_, rfl, rfl⟩
theorem kb_is_thing : ∀ q ∈ d_is_thing.kb, KbOk d_is_thing q := by
  intro q hq
  simp only [d_is_thing, List.mem_cons, List.mem_nil_iff, or_false] at hq
  rcases hq with rfl
  · exact kb_is_thing_0
theorem bd_rises : BdOk d_rises := fun _ _ _ _ _ _ us hl => match us, hl with | [_], _ => rfl
theorem kb_rises : ∀ q ∈ d_rises.kb, KbOk d_rises q := fun q hq => absurd hq (by intro z; cases z)
theorem bd_is_rising : BdOk d_is_rising := fun _ _ _ _ _ _ us hl => match us, hl with | [_, _], _ => rfl
theorem kb_is_rising : ∀ q ∈ d_is_rising.kb, KbOk d_is_rising q := fun q hq => absurd hq (by intro z; cases z)
theorem bd_is_keys : BdOk d_is_keys := fun _ _ _ _ _ _ us hl => match us, hl with | [_], _ => rfl
theorem kb_is_keys_0 : KbOk d_is_keys (["thing"], [0]) := fun _ _ _ _ _ _ us hl => match us, hl with | [_], _ => ⟨_, rfl, rfl⟩
theorem kb_is_keys : ∀ q ∈ d_is_keys.kb, KbOk d_is_keys q := by
  intro q hq
  simp only [d_is_keys, List.mem_cons, List.mem_nil_iff, or_false] at hq
  rcases hq with rfl
  · exact kb_is_keys_0
theorem bd_is_box : BdOk d_is_box := fun _ _ _ _ _ _ us hl => match us, hl with | [_], _ => rfl
theorem kb_is_box_0 : KbOk d_is_box (["thing"], [0]) := fun _ _ _ _ _ _ us hl => match us, hl with | [_], _ => ⟨_, rfl, rfl⟩
theorem kb_is_box : ∀ q ∈ d_is_box.kb, KbOk d_is_box q := by
  intro q hq
  simp only [d_is_box, List.mem_cons, List.mem_nil_iff, or_false] at hq
  rcases hq with rfl
  · exact kb_is_box_0
theorem bd_is_boxes : BdOk d_is_boxes := fun _ _ _ _ _ _ us hl => match us, hl with | [_], _ => rfl
theorem kb_is_boxes_0 : KbOk d_is_boxes (["thing"], [0]) := fun _ _ _ _ _ _ us hl => match us, hl with | [_], _ => ⟨_, rfl, rfl⟩
theorem kb_is_boxes : ∀ q ∈ d_is_boxes.kb, KbOk d_is_boxes q := by
  intro q hq
  simp only [d_is_boxes, List.mem_cons, List.mem_nil_iff, or_false] at hq
  rcases hq with rfl
  · exact kb_is_boxes_0
theorem bd_is_hand : BdOk d_is_hand := fun _ _ _ _ _ _ us hl => match us, hl with | [_], _ => rfl
theorem kb_is_hand : ∀ q ∈ d_is_hand.kb, KbOk d_is_hand q := fun q hq => absurd hq (by intro z; cases z)
theorem bd_is_shelf : BdOk d_is_shelf := fun _ _ _ _ _ _ us hl => match us, hl with | [_], _ => rfl
theorem kb_is_shelf_0 : KbOk d_is_shelf (["thing"], [0]) := fun _ _ _ _ _ _ us hl => match us, hl with | [_], _ => ⟨_, rfl, rfl⟩
theorem kb_is_shelf : ∀ q ∈ d_is_shelf.kb, KbOk d_is_shelf q := by
  intro q hq
  simp only [d_is_shelf, List.mem_cons, List.mem_nil_iff, or_false] at hq
  rcases hq with rfl
  · exact kb_is_shelf_0
theorem bd_law_feed : BdOk d_law_feed := fun _ _ _ _ _ _ us hl => match us, hl with | [_], _ => rfl
theorem kb_law_feed : ∀ q ∈ d_law_feed.kb, KbOk d_law_feed q := fun q hq => absurd hq (by intro z; cases z)
theorem bd_law_draw : BdOk d_law_draw := fun _ _ _ _ _ _ us hl => match us, hl with | [_, _], _ => rfl
theorem kb_law_draw : ∀ q ∈ d_law_draw.kb, KbOk d_law_draw q := fun q hq => absurd hq (by intro z; cases z)
theorem bd_law_key : BdOk d_law_key := fun _ _ _ _ _ _ us hl => match us, hl with | [_], _ => rfl
theorem kb_law_key : ∀ q ∈ d_law_key.kb, KbOk d_law_key q := fun q hq => absurd hq (by intro z; cases z)
theorem bd_law_named : BdOk d_law_named := fun _ _ _ _ _ _ us hl => match us, hl with | [_], _ => rfl
theorem kb_law_named : ∀ q ∈ d_law_named.kb, KbOk d_law_named q := fun q hq => absurd hq (by intro z; cases z)
theorem bd_law_page : BdOk d_law_page := fun _ _ _ _ _ _ us hl => match us, hl with | [_], _ => rfl
theorem kb_law_page : ∀ q ∈ d_law_page.kb, KbOk d_law_page q := fun q hq => absurd hq (by intro z; cases z)
theorem bd_law_rises : BdOk d_law_rises := fun _ _ _ _ _ _ us hl => match us, hl with | [_], _ => rfl
theorem kb_law_rises : ∀ q ∈ d_law_rises.kb, KbOk d_law_rises q := fun q hq => absurd hq (by intro z; cases z)
theorem bd_law_keyed : BdOk d_law_keyed := fun _ _ _ _ _ _ us hl => match us, hl with | [_], _ => rfl
theorem kb_law_keyed : ∀ q ∈ d_law_keyed.kb, KbOk d_law_keyed q := fun q hq => absurd hq (by intro z; cases z)
theorem bd_law_boxed : BdOk d_law_boxed := fun _ _ _ _ _ _ us hl => match us, hl with | [_], _ => rfl
theorem kb_law_boxed : ∀ q ∈ d_law_boxed.kb, KbOk d_law_boxed q := fun q hq => absurd hq (by intro z; cases z)
theorem bd_law_grip : BdOk d_law_grip := fun _ _ _ _ _ _ us hl => match us, hl with | [_, _, _], _ => rfl
theorem kb_law_grip : ∀ q ∈ d_law_grip.kb, KbOk d_law_grip q := fun q hq => absurd hq (by intro z; cases z)
theorem bd_law_lot : BdOk d_law_lot := fun _ _ _ _ _ _ us hl => match us, hl with | [_, _, _], _ => rfl
theorem kb_law_lot : ∀ q ∈ d_law_lot.kb, KbOk d_law_lot q := fun q hq => absurd hq (by intro z; cases z)
theorem bd_law_odd : BdOk d_law_odd := fun _ _ _ _ _ _ us hl => match us, hl with | [_], _ => rfl
theorem kb_law_odd : ∀ q ∈ d_law_odd.kb, KbOk d_law_odd q := fun q hq => absurd hq (by intro z; cases z)
theorem bd_law_bent : BdOk d_law_bent := fun _ _ _ _ _ _ us hl => match us, hl with | [_, _], _ => rfl
theorem kb_law_bent : ∀ q ∈ d_law_bent.kb, KbOk d_law_bent q := fun q hq => absurd hq (by intro z; cases z)
theorem bd_law_shelved : BdOk d_law_shelved := fun _ _ _ _ _ _ us hl => match us, hl with | [_], _ => rfl
theorem kb_law_shelved : ∀ q ∈ d_law_shelved.kb, KbOk d_law_shelved q := fun q hq => absurd hq (by intro z; cases z)
theorem bd_law_right : BdOk d_law_right := fun _ _ _ _ _ _ us hl => match us, hl with | [_], _ => rfl
theorem kb_law_right : ∀ q ∈ d_law_right.kb, KbOk d_law_right q := fun q hq => absurd hq (by intro z; cases z)
theorem bd_law_values : BdOk d_law_values := fun _ _ _ _ _ _ us hl => match us, hl with | [], _ => rfl
theorem kb_law_values : ∀ q ∈ d_law_values.kb, KbOk d_law_values q := fun q hq => absurd hq (by intro z; cases z)
theorem bd_law : BdOk d_law := fun _ _ _ _ _ _ us hl => match us, hl with | [_], _ => rfl
theorem kb_law : ∀ q ∈ d_law.kb, KbOk d_law q := fun q hq => absurd hq (by intro z; cases z)
def fu : Nat := 1000
@[irreducible] def F_0 : Nat → List D → M D := fun _ _ => .bad
theorem Fe_0 : F_0 = fun _ _ => .bad := by with_unfolding_all rfl
def m_is_integer : List D → M D := nFn 1 (runD fu 1 F_0 b_is_integer)
@[irreducible] def F_1 : Nat → List D → M D := updF F_0 0 m_is_integer
theorem Fe_1 : F_1 = updF F_0 0 m_is_integer := by with_unfolding_all rfl
theorem Fc_1_0 : F_1 0 = m_is_integer := by with_unfolding_all rfl
def m_is_number : List D → M D := nFn 1 (runD fu 1 F_1 b_is_number)
@[irreducible] def F_2 : Nat → List D → M D := updF F_1 1 m_is_number
theorem Fe_2 : F_2 = updF F_1 1 m_is_number := by with_unfolding_all rfl
def m_is_name : List D → M D := nFn 1 (runD fu 2 F_2 b_is_name)
@[irreducible] def F_3 : Nat → List D → M D := updF F_2 2 m_is_name
theorem Fe_3 : F_3 = updF F_2 2 m_is_name := by with_unfolding_all rfl
theorem Fc_3_1 : F_3 1 = m_is_number := by with_unfolding_all rfl
def m_is_key : List D → M D := nFn 1 (runD fu 1 F_3 b_is_key)
@[irreducible] def F_4 : Nat → List D → M D := updF F_3 3 m_is_key
theorem Fe_4 : F_4 = updF F_3 3 m_is_key := by with_unfolding_all rfl
theorem Fc_4_2 : F_4 2 = m_is_name := by with_unfolding_all rfl
theorem Fc_4_1 : F_4 1 = m_is_number := by with_unfolding_all rfl
def m_is_text : List D → M D := nFn 1 (runD fu 1 F_4 b_is_text)
@[irreducible] def F_5 : Nat → List D → M D := updF F_4 4 m_is_text
theorem Fe_5 : F_5 = updF F_4 4 m_is_text := by with_unfolding_all rfl
theorem Fc_5_3 : F_5 3 = m_is_key := by with_unfolding_all rfl
theorem Fc_5_4 : F_5 4 = m_is_text := by with_unfolding_all rfl
def m_is_thing : List D → M D := nFn 1 (runD fu 1 F_5 b_is_thing)
@[irreducible] def F_6 : Nat → List D → M D := updF F_5 5 m_is_thing
theorem Fe_6 : F_6 = updF F_5 5 m_is_thing := by with_unfolding_all rfl
def m_rises : List D → M D := nFn 1 (runD fu 3 F_6 b_rises)
@[irreducible] def F_7 : Nat → List D → M D := updF F_6 6 m_rises
theorem Fe_7 : F_7 = updF F_6 6 m_rises := by with_unfolding_all rfl
theorem Fc_7_6 : F_7 6 = m_rises := by with_unfolding_all rfl
def m_is_rising : List D → M D := nFn 2 (runD fu 3 F_7 b_is_rising)
@[irreducible] def F_8 : Nat → List D → M D := updF F_7 7 m_is_rising
theorem Fe_8 : F_8 = updF F_7 7 m_is_rising := by with_unfolding_all rfl
theorem Fc_8_3 : F_8 3 = m_is_key := by with_unfolding_all rfl
theorem Fc_8_7 : F_8 7 = m_is_rising := by with_unfolding_all rfl
def m_is_keys : List D → M D := nFn 1 (runD fu 1 F_8 b_is_keys)
@[irreducible] def F_9 : Nat → List D → M D := updF F_8 8 m_is_keys
theorem Fe_9 : F_9 = updF F_8 8 m_is_keys := by with_unfolding_all rfl
theorem Fc_9_8 : F_9 8 = m_is_keys := by with_unfolding_all rfl
theorem Fc_9_5 : F_9 5 = m_is_thing := by with_unfolding_all rfl
def m_is_box : List D → M D := nFn 1 (runD fu 1 F_9 b_is_box)
@[irreducible] def F_10 : Nat → List D → M D := updF F_9 9 m_is_box
theorem Fe_10 : F_10 = updF F_9 9 m_is_box := by with_unfolding_all rfl
theorem Fc_10_9 : F_10 9 = m_is_box := by with_unfolding_all rfl
def m_is_boxes : List D → M D := nFn 1 (runD fu 2 F_10 b_is_boxes)
@[irreducible] def F_11 : Nat → List D → M D := updF F_10 10 m_is_boxes
theorem Fe_11 : F_11 = updF F_10 10 m_is_boxes := by with_unfolding_all rfl
theorem Fc_11_8 : F_11 8 = m_is_keys := by with_unfolding_all rfl
theorem Fc_11_2 : F_11 2 = m_is_name := by with_unfolding_all rfl
def m_is_hand : List D → M D := nFn 1 (runD fu 1 F_11 b_is_hand)
@[irreducible] def F_12 : Nat → List D → M D := updF F_11 11 m_is_hand
theorem Fe_12 : F_12 = updF F_11 11 m_is_hand := by with_unfolding_all rfl
theorem Fc_12_10 : F_12 10 = m_is_boxes := by with_unfolding_all rfl
theorem Fc_12_11 : F_12 11 = m_is_hand := by with_unfolding_all rfl
theorem Fc_12_6 : F_12 6 = m_rises := by with_unfolding_all rfl
def m_is_shelf : List D → M D := nFn 1 (runD fu 2 F_12 b_is_shelf)
@[irreducible] def F_13 : Nat → List D → M D := updF F_12 12 m_is_shelf
theorem Fe_13 : F_13 = updF F_12 12 m_is_shelf := by with_unfolding_all rfl
abbrev m_law_draw : List D → M D := drawM
@[irreducible] def F_14 : Nat → List D → M D := updF F_13 14 m_law_draw
theorem Fe_14 : F_14 = updF F_13 14 m_law_draw := by with_unfolding_all rfl
theorem draw_ok0 : DrawOk (nFn 2 (runD fu 6 F_13 b_law_draw)) := fun ns n h0 h1 => by
  show WP (runD fu 6 F_13 (drawA 59 1000000427 130003 61 2147483399 3900017 29 2147483353 97 2147483323 16) [feedD ns, .int n]) _
  exact wp_drawA (by decide) (by decide) (by decide) (by decide) (by decide) (by decide) (by decide) (by decide) ns n h0 h1
def m_law_key : List D → M D := nFn 1 (runD fu 1 F_14 b_law_key)
@[irreducible] def F_15 : Nat → List D → M D := updF F_14 15 m_law_key
theorem Fe_15 : F_15 = updF F_14 15 m_law_key := by with_unfolding_all rfl
def m_law_named : List D → M D := nFn 1 (runD fu 2 F_15 b_law_named)
@[irreducible] def F_16 : Nat → List D → M D := updF F_15 16 m_law_named
theorem Fe_16 : F_16 = updF F_15 16 m_law_named := by with_unfolding_all rfl
theorem Fc_16_15 : F_16 15 = m_law_key := by with_unfolding_all rfl
theorem Fc_16_16 : F_16 16 = m_law_named := by with_unfolding_all rfl
def m_law_page : List D → M D := nFn 1 (runD fu 1 F_16 b_law_page)
@[irreducible] def F_17 : Nat → List D → M D := updF F_16 17 m_law_page
theorem Fe_17 : F_17 = updF F_16 17 m_law_page := by with_unfolding_all rfl
def m_law_rises : List D → M D := nFn 1 (runD fu 2 F_17 b_law_rises)
@[irreducible] def F_18 : Nat → List D → M D := updF F_17 18 m_law_rises
theorem Fe_18 : F_18 = updF F_17 18 m_law_rises := by with_unfolding_all rfl
theorem Fc_18_15 : F_18 15 = m_law_key := by with_unfolding_all rfl
theorem Fc_18_18 : F_18 18 = m_law_rises := by with_unfolding_all rfl
def m_law_keyed : List D → M D := nFn 1 (runD fu 2 F_18 b_law_keyed)
@[irreducible] def F_19 : Nat → List D → M D := updF F_18 19 m_law_keyed
theorem Fe_19 : F_19 = updF F_18 19 m_law_keyed := by with_unfolding_all rfl
theorem Fc_19_15 : F_19 15 = m_law_key := by with_unfolding_all rfl
theorem Fc_19_19 : F_19 19 = m_law_keyed := by with_unfolding_all rfl
theorem Fc_19_17 : F_19 17 = m_law_page := by with_unfolding_all rfl
def m_law_boxed : List D → M D := nFn 1 (runD fu 1 F_19 b_law_boxed)
@[irreducible] def F_20 : Nat → List D → M D := updF F_19 20 m_law_boxed
theorem Fe_20 : F_20 = updF F_19 20 m_law_boxed := by with_unfolding_all rfl
theorem Fc_20_14 : F_20 14 = m_law_draw := by with_unfolding_all rfl
def m_law_grip : List D → M D := nFn 3 (runD fu 6 F_20 b_law_grip)
@[irreducible] def F_21 : Nat → List D → M D := updF F_20 21 m_law_grip
theorem Fe_21 : F_21 = updF F_20 21 m_law_grip := by with_unfolding_all rfl
theorem Fc_21_14 : F_21 14 = m_law_draw := by with_unfolding_all rfl
def m_law_lot : List D → M D := nFn 3 (runD fu 13 F_21 b_law_lot)
@[irreducible] def F_22 : Nat → List D → M D := updF F_21 22 m_law_lot
theorem Fe_22 : F_22 = updF F_21 22 m_law_lot := by with_unfolding_all rfl
theorem Fc_22_14 : F_22 14 = m_law_draw := by with_unfolding_all rfl
def m_law_odd : List D → M D := nFn 1 (runD fu 2 F_22 b_law_odd)
@[irreducible] def F_23 : Nat → List D → M D := updF F_22 23 m_law_odd
theorem Fe_23 : F_23 = updF F_22 23 m_law_odd := by with_unfolding_all rfl
theorem Fc_23_14 : F_23 14 = m_law_draw := by with_unfolding_all rfl
theorem Fc_23_23 : F_23 23 = m_law_odd := by with_unfolding_all rfl
@[irreducible] def F_24 : Nat → List D → M D := itF F_23 24 2 5 fu b_law_bent 12
theorem Fe_24 : F_24 = itF F_23 24 2 5 fu b_law_bent 12 := by with_unfolding_all rfl
theorem Fc_24_20 : F_24 20 = m_law_boxed := by with_unfolding_all rfl
theorem Fc_24_19 : F_24 19 = m_law_keyed := by with_unfolding_all rfl
theorem Fc_24_16 : F_24 16 = m_law_named := by with_unfolding_all rfl
theorem Fc_24_18 : F_24 18 = m_law_rises := by with_unfolding_all rfl
def m_law_shelved : List D → M D := nFn 1 (runD fu 3 F_24 b_law_shelved)
@[irreducible] def F_25 : Nat → List D → M D := updF F_24 25 m_law_shelved
theorem Fe_25 : F_25 = updF F_24 25 m_law_shelved := by with_unfolding_all rfl
theorem Fc_25_20 : F_25 20 = m_law_boxed := by with_unfolding_all rfl
theorem Fc_25_15 : F_25 15 = m_law_key := by with_unfolding_all rfl
theorem Fc_25_19 : F_25 19 = m_law_keyed := by with_unfolding_all rfl
theorem Fc_25_16 : F_25 16 = m_law_named := by with_unfolding_all rfl
theorem Fc_25_17 : F_25 17 = m_law_page := by with_unfolding_all rfl
theorem Fc_25_25 : F_25 25 = m_law_shelved := by with_unfolding_all rfl
theorem Fc_25_9 : F_25 9 = m_is_box := by with_unfolding_all rfl
theorem Fc_25_10 : F_25 10 = m_is_boxes := by with_unfolding_all rfl
theorem Fc_25_3 : F_25 3 = m_is_key := by with_unfolding_all rfl
theorem Fc_25_8 : F_25 8 = m_is_keys := by with_unfolding_all rfl
theorem Fc_25_2 : F_25 2 = m_is_name := by with_unfolding_all rfl
theorem Fc_25_12 : F_25 12 = m_is_shelf := by with_unfolding_all rfl
theorem Fc_25_4 : F_25 4 = m_is_text := by with_unfolding_all rfl
theorem Fc_25_5 : F_25 5 = m_is_thing := by with_unfolding_all rfl
def m_law_right : List D → M D := nFn 1 (runD fu 5 F_25 b_law_right)
@[irreducible] def F_26 : Nat → List D → M D := updF F_25 26 m_law_right
theorem Fe_26 : F_26 = updF F_25 26 m_law_right := by with_unfolding_all rfl
def m_law_values : List D → M D := nFn 0 (runD fu 5 F_26 b_law_values)
@[irreducible] def F_27 : Nat → List D → M D := updF F_26 27 m_law_values
theorem Fe_27 : F_27 = updF F_26 27 m_law_values := by with_unfolding_all rfl
theorem Fc_27_0 : F_27 0 = m_is_integer := by with_unfolding_all rfl
theorem Fc_27_1 : F_27 1 = m_is_number := by with_unfolding_all rfl
theorem Fc_27_2 : F_27 2 = m_is_name := by with_unfolding_all rfl
theorem Fc_27_3 : F_27 3 = m_is_key := by with_unfolding_all rfl
theorem Fc_27_4 : F_27 4 = m_is_text := by with_unfolding_all rfl
theorem Fc_27_5 : F_27 5 = m_is_thing := by with_unfolding_all rfl
theorem Fc_27_6 : F_27 6 = m_rises := by with_unfolding_all rfl
theorem Fc_27_7 : F_27 7 = m_is_rising := by with_unfolding_all rfl
theorem Fc_27_8 : F_27 8 = m_is_keys := by with_unfolding_all rfl
theorem Fc_27_9 : F_27 9 = m_is_box := by with_unfolding_all rfl
theorem Fc_27_10 : F_27 10 = m_is_boxes := by with_unfolding_all rfl
theorem Fc_27_11 : F_27 11 = m_is_hand := by with_unfolding_all rfl
theorem Fc_27_12 : F_27 12 = m_is_shelf := by with_unfolding_all rfl
theorem Fc_27_14 : F_27 14 = m_law_draw := by with_unfolding_all rfl
theorem Fc_27_15 : F_27 15 = m_law_key := by with_unfolding_all rfl
theorem Fc_27_16 : F_27 16 = m_law_named := by with_unfolding_all rfl
theorem Fc_27_17 : F_27 17 = m_law_page := by with_unfolding_all rfl
theorem Fc_27_18 : F_27 18 = m_law_rises := by with_unfolding_all rfl
theorem Fc_27_19 : F_27 19 = m_law_keyed := by with_unfolding_all rfl
theorem Fc_27_20 : F_27 20 = m_law_boxed := by with_unfolding_all rfl
theorem Fc_27_21 : F_27 21 = m_law_grip := by with_unfolding_all rfl
theorem Fc_27_22 : F_27 22 = m_law_lot := by with_unfolding_all rfl
theorem Fc_27_23 : F_27 23 = m_law_odd := by with_unfolding_all rfl
theorem Fc_27_25 : F_27 25 = m_law_shelved := by with_unfolding_all rfl
theorem Fc_27_26 : F_27 26 = m_law_right := by with_unfolding_all rfl
theorem Fc_27_27 : F_27 27 = m_law_values := by with_unfolding_all rfl
theorem stages {P : Program} {w : World} {K : PySem.W.Frag} {mg : Str → Option Value} {as : List Addr} (A : AllAt K mg tb as) (B : Heap) (ns : List Int) (G : Glb ⟨K, fun k => as[k]?, fk, ns⟩ mg bn cs) : Stg ⟨K, fun k => as[k]?, fk, ns⟩ tb P w K mg B F_27 38 := by
  have S0 : Stg ⟨K, fun k => as[k]?, fk, ns⟩ tb P w K mg B F_0 0 := by
    rw [Fe_0]
    exact A.stg ns
  have S1 : Stg ⟨K, fun k => as[k]?, fk, ns⟩ tb P w K mg B F_1 1 := by
    rw [Fe_1]
    exact Stg.next S0 G 0 fu (d := d_is_integer) (N := N_is_integer) (b := b_is_integer) rfl sc_is_integer mt_is_integer
  have S2 : Stg ⟨K, fun k => as[k]?, fk, ns⟩ tb P w K mg B F_2 2 := by
    rw [Fe_2]
    exact Stg.next S1 G 1 fu (d := d_is_number) (N := N_is_number) (b := b_is_number) rfl sc_is_number mt_is_number
  have S3 : Stg ⟨K, fun k => as[k]?, fk, ns⟩ tb P w K mg B F_3 3 := by
    rw [Fe_3]
    exact Stg.next S2 G 2 fu (d := d_is_name) (N := N_is_name) (b := b_is_name) rfl sc_is_name mt_is_name
  have S4 : Stg ⟨K, fun k => as[k]?, fk, ns⟩ tb P w K mg B F_4 4 := by
    rw [Fe_4]
    exact Stg.next S3 G 3 fu (d := d_is_key) (N := N_is_key) (b := b_is_key) rfl sc_is_key mt_is_key
  have S5 : Stg ⟨K, fun k => as[k]?, fk, ns⟩ tb P w K mg B F_5 5 := by
    rw [Fe_5]
    exact Stg.next S4 G 4 fu (d := d_is_text) (N := N_is_text) (b := b_is_text) rfl sc_is_text mt_is_text
  have S6 : Stg ⟨K, fun k => as[k]?, fk, ns⟩ tb P w K mg B F_6 6 := by
    rw [Fe_6]
    exact Stg.next S5 G 5 fu (d := d_is_thing) (N := N_is_thing) (b := b_is_thing) rfl sc_is_thing mt_is_thing
  have S7 : Stg ⟨K, fun k => as[k]?, fk, ns⟩ tb P w K mg B F_7 7 := by
    rw [Fe_7]
    exact Stg.next S6 G 6 fu (d := d_rises) (N := N_rises) (b := b_rises) rfl sc_rises mt_rises
  have S8 : Stg ⟨K, fun k => as[k]?, fk, ns⟩ tb P w K mg B F_8 8 := by
    rw [Fe_8]
    exact Stg.next S7 G 7 fu (d := d_is_rising) (N := N_is_rising) (b := b_is_rising) rfl sc_is_rising mt_is_rising
  have S9 : Stg ⟨K, fun k => as[k]?, fk, ns⟩ tb P w K mg B F_9 9 := by
    rw [Fe_9]
    exact Stg.next S8 G 8 fu (d := d_is_keys) (N := N_is_keys) (b := b_is_keys) rfl sc_is_keys mt_is_keys
  have S10 : Stg ⟨K, fun k => as[k]?, fk, ns⟩ tb P w K mg B F_10 10 := by
    rw [Fe_10]
    exact Stg.next S9 G 9 fu (d := d_is_box) (N := N_is_box) (b := b_is_box) rfl sc_is_box mt_is_box
  have S11 : Stg ⟨K, fun k => as[k]?, fk, ns⟩ tb P w K mg B F_11 11 := by
    rw [Fe_11]
    exact Stg.next S10 G 10 fu (d := d_is_boxes) (N := N_is_boxes) (b := b_is_boxes) rfl sc_is_boxes mt_is_boxes
  have S12 : Stg ⟨K, fun k => as[k]?, fk, ns⟩ tb P w K mg B F_12 12 := by
    rw [Fe_12]
    exact Stg.next S11 G 11 fu (d := d_is_hand) (N := N_is_hand) (b := b_is_hand) rfl sc_is_hand mt_is_hand
  have S13 : Stg ⟨K, fun k => as[k]?, fk, ns⟩ tb P w K mg B F_13 13 := by
    rw [Fe_13]
    exact Stg.next S12 G 12 fu (d := d_is_shelf) (N := N_is_shelf) (b := b_is_shelf) rfl sc_is_shelf mt_is_shelf
  have S14 : Stg ⟨K, fun k => as[k]?, fk, ns⟩ tb P w K mg B F_14 14 := by
    rw [Fe_14]
    exact (Stg.next S13 G 14 fu (d := d_law_draw) (N := N_law_draw) (b := b_law_draw) rfl sc_law_draw mt_law_draw).sub (upd_sub (draw_sub draw_ok0))
  have S15 : Stg ⟨K, fun k => as[k]?, fk, ns⟩ tb P w K mg B F_15 15 := by
    rw [Fe_15]
    exact Stg.next S14 G 15 fu (d := d_law_key) (N := N_law_key) (b := b_law_key) rfl sc_law_key mt_law_key
  have S16 : Stg ⟨K, fun k => as[k]?, fk, ns⟩ tb P w K mg B F_16 16 := by
    rw [Fe_16]
    exact Stg.next S15 G 16 fu (d := d_law_named) (N := N_law_named) (b := b_law_named) rfl sc_law_named mt_law_named
  have S17 : Stg ⟨K, fun k => as[k]?, fk, ns⟩ tb P w K mg B F_17 17 := by
    rw [Fe_17]
    exact Stg.next S16 G 17 fu (d := d_law_page) (N := N_law_page) (b := b_law_page) rfl sc_law_page mt_law_page
  have S18 : Stg ⟨K, fun k => as[k]?, fk, ns⟩ tb P w K mg B F_18 18 := by
    rw [Fe_18]
    exact Stg.next S17 G 18 fu (d := d_law_rises) (N := N_law_rises) (b := b_law_rises) rfl sc_law_rises mt_law_rises
  have S19 : Stg ⟨K, fun k => as[k]?, fk, ns⟩ tb P w K mg B F_19 19 := by
    rw [Fe_19]
    exact Stg.next S18 G 19 fu (d := d_law_keyed) (N := N_law_keyed) (b := b_law_keyed) rfl sc_law_keyed mt_law_keyed
  have S20 : Stg ⟨K, fun k => as[k]?, fk, ns⟩ tb P w K mg B F_20 20 := by
    rw [Fe_20]
    exact Stg.next S19 G 20 fu (d := d_law_boxed) (N := N_law_boxed) (b := b_law_boxed) rfl sc_law_boxed mt_law_boxed
  have S21 : Stg ⟨K, fun k => as[k]?, fk, ns⟩ tb P w K mg B F_21 21 := by
    rw [Fe_21]
    exact Stg.next S20 G 21 fu (d := d_law_grip) (N := N_law_grip) (b := b_law_grip) rfl sc_law_grip mt_law_grip
  have S22 : Stg ⟨K, fun k => as[k]?, fk, ns⟩ tb P w K mg B F_22 22 := by
    rw [Fe_22]
    exact Stg.next S21 G 22 fu (d := d_law_lot) (N := N_law_lot) (b := b_law_lot) rfl sc_law_lot mt_law_lot
  have S23 : Stg ⟨K, fun k => as[k]?, fk, ns⟩ tb P w K mg B F_23 23 := by
    rw [Fe_23]
    exact Stg.next S22 G 23 fu (d := d_law_odd) (N := N_law_odd) (b := b_law_odd) rfl sc_law_odd mt_law_odd
  have S24 : Stg ⟨K, fun k => as[k]?, fk, ns⟩ tb P w K mg B F_24 35 := by
    rw [Fe_24]
    exact Stg.deep S23 G 24 fu (d := d_law_bent) (N := N_law_bent) (b := b_law_bent) rfl sc_law_bent mt_law_bent 12
  have S25 : Stg ⟨K, fun k => as[k]?, fk, ns⟩ tb P w K mg B F_25 36 := by
    rw [Fe_25]
    exact Stg.next S24 G 25 fu (d := d_law_shelved) (N := N_law_shelved) (b := b_law_shelved) rfl sc_law_shelved mt_law_shelved
  have S26 : Stg ⟨K, fun k => as[k]?, fk, ns⟩ tb P w K mg B F_26 37 := by
    rw [Fe_26]
    exact Stg.next S25 G 26 fu (d := d_law_right) (N := N_law_right) (b := b_law_right) rfl sc_law_right mt_law_right
  have S27 : Stg ⟨K, fun k => as[k]?, fk, ns⟩ tb P w K mg B F_27 38 := by
    rw [Fe_27]
    exact Stg.next S26 G 27 fu (d := d_law_values) (N := N_law_values) (b := b_law_values) rfl sc_law_values mt_law_values
  exact S27
theorem sc_law_feed : FnScope ["_law_script"] ["_law_script"] (defScope d_law_feed.st) := ⟨rfl, rfl, rfl, by decide +kernel, rfl, by decide +kernel, by decide +kernel⟩
abbrev Pure : Prop := ∀ ns : List Int, WP (exGo fu F_27 b_law (none :: some (.dat (feedD ns)) :: List.replicate 8 none)) fun o => match o with
  | .rt v => v = .bool true
  | _ => False
theorem finish {P : Program} {w : World} {h : Heap} {mg : Str → Option Value} {K : PySem.W.Frag} {fA : Addr} (hw : Pure) (X : K.In h) (G : h.Ns mainGlobals mg) (hfa : mg "law" = some (.ref fA)) (A : ∃ as, AllAt K mg tb as) (hb : ∀ x ∈ bn, PySem.W.nsIn K mainGlobals x = some none) (hc : ∀ p ∈ cs, CsAt K p.1 p.2) :
    ∃ (K : PySem.W.Frag) (fd : FuncData) (sp : Sp), K.In h ∧ (∀ (s : Shared) (u : Value), BindsTo s fd ⟨[u], []⟩ [("_law_script", u)]) ∧
      (∀ (H : Hp) (a : Addr) (ns : List Int), ns.length ≤ 63 → Only H → SqL K H a (ns.map V.int) → sp [.ref a] H (fun v _ => v = .bl true) fun _ _ _ => False) ∧ ∀ B : Heap, K.In B → B.Ns mainGlobals mg → FnG P w K mg B (38 + 1) fA fd ["_law_script"] sp := by
  obtain ⟨as, A⟩ := A
  have ok : FkOk fk := ⟨by decide +kernel, by decide +kernel, by decide +kernel, by decide +kernel, by decide +kernel, by decide +kernel⟩
  have GG : ∀ ns, Glb ⟨K, fun k => as[k]?, fk, ns⟩ mg bn cs := fun ns => glb_of X G ok hb hc
  exact law_of (n := 63) (kl := 28) (kf := 13) (cut := 63) (d := d_law) (df := d_law_feed) (N := N_law) (b := b_law) (s0 := (defBody d_law.st).getD 0 (.Pass ⟨0, 0, 0, 0⟩)) (rest := (defBody d_law.st).drop 1) (f := "_law_feed_here") (x := "_law_script") (xf := "_law_script") X hfa A GG (by decide) (fun B ns => stages A B ns (GG ns)) fu rfl rfl rfl (by decide +kernel) (by decide +kernel) sc_law_feed (by decide +kernel) (by decide +kernel) (by decide +kernel) sc_law rfl bd_law rfl rfl (by decide +kernel) (by decide +kernel) (by decide +kernel) (by decide +kernel) mt_law hw
end K01
namespace K01
open PySem PySem.Spec PyProof.Rows L2 Pf
def keyB : D → Bool
  | .int i => decide (0 ≤ i)
  | _ => false
theorem s_integer (d : D) (h : plainD d = true) : m_is_integer [d] = .ret (.bool (isTy .int d && !isTy .bool d)) := by
  cases d <;> first | rfl | cases h
theorem s_number (d : D) (h : plainD d = true) : m_is_number [d] = .ret (.bool (keyB d)) := by
  have e := s_integer d h
  cases d <;> first | (cases h; done) | (simp [nFn, runD, exGo, ev, rdv, tst, ev0, gs, gr, go, itmv, optv, isTy, plainD, SV.d, wip, datOnly, tgt, b_ret, b_bad, need_true, c_lt, c_le, c_gt, c_ge, c_ltS, c_geS, c_eq, c_ne, k_l, k_i, c_inS, c_niT, c_niL, c_inL, l_lst, l_tup, l_str, b_all, b_ord, b_repr, t_b, bo_b, in_i, ls_l, it_l, it_t, it_s, m_is_number, b_is_number, Fc_1_0, e, keyB]; done)
theorem s_key (d : D) (h : plainD d = true) : m_is_key [d] = .ret (.bool (keyB d)) := by
  have e := s_number d h
  simp [nFn, runD, exGo, ev, rdv, tst, ev0, gs, gr, go, itmv, optv, isTy, plainD, SV.d, wip, datOnly, tgt, b_ret, b_bad, need_true, c_lt, c_le, c_gt, c_ge, c_ltS, c_geS, c_eq, c_ne, k_l, k_i, c_inS, c_niT, c_niL, c_inL, l_lst, l_tup, l_str, b_all, b_ord, b_repr, t_b, bo_b, in_i, ls_l, it_l, it_t, it_s, m_is_key, b_is_key, Fc_3_1, e]
theorem s_lkey (d : D) (h : plainD d = true) : m_law_key [d] = .ret (.bool (keyB d)) := by
  cases d <;> first | (cases h; done) | (simp [nFn, runD, exGo, ev, rdv, tst, ev0, gs, gr, go, itmv, optv, isTy, plainD, SV.d, wip, datOnly, tgt, b_ret, b_bad, need_true, c_lt, c_le, c_gt, c_ge, c_ltS, c_geS, c_eq, c_ne, k_l, k_i, c_inS, c_niT, c_niL, c_inL, l_lst, l_tup, l_str, b_all, b_ord, b_repr, t_b, bo_b, in_i, ls_l, it_l, it_t, it_s, m_law_key, b_law_key, keyB]; done)
def nameB : D → Bool
  | .str a => decide (1 ≤ a.length ∧ a.length ≤ 8) && a.cps.toList.all fun c => decide (97 ≤ c ∧ c ≤ 122)
  | _ => false
theorem letters (c : Nat) : decide (c ∈ ("abcdefghijklmnopqrstuvwxyz" : Str).cps.toList) = decide (97 ≤ c ∧ c ≤ 122) := by
  have e : ("abcdefghijklmnopqrstuvwxyz" : Str).cps.toList = (List.range 26).map (· + 97) := by decide +kernel
  rw [e, decide_eq_decide, List.mem_map]
  constructor
  · rintro ⟨k, hk, rfl⟩; have := List.mem_range.mp hk; omega
  · rintro ⟨h1, h2⟩; exact ⟨c - 97, List.mem_range.mpr (by omega), by omega⟩
theorem chars_all (cs : List Nat) : ((cs.map fun c => PyData.str ⟨#[c]⟩).map fun d => match d with | .str x => decide (97 ≤ x.cps.toList.headD 0 ∧ x.cps.toList.headD 0 ≤ 122) | _ => false).all id = cs.all fun c => decide (97 ≤ c ∧ c ≤ 122) := by
  rw [List.map_map, List.all_map]
  rfl
def chB : D → Bool
  | .str x => decide (97 ≤ x.cps.toList.headD 0 ∧ x.cps.toList.headD 0 ≤ 122)
  | _ => false
theorem s_name (d : D) (h : Gd d) : m_is_name [d] = .ret (.bool (nameB d)) := by
  cases d with
  | str a =>
    have hl := h.strL
    have hl2 : a.cps.size ≤ sizeLine := hl
    by_cases h1 : 1 ≤ a.length ∧ a.length ≤ 8
    · have q1 : (1 : Int) ≤ a.length := by omega
      have q2 : (a.length : Int) ≤ 8 := by omega
      simp [nFn, runD, exGo, ev, rdv, tst, ev0, gs, gr, go, itmv, optv, isTy, plainD, SV.d, wip, datOnly, tgt, b_ret, b_bad, need_true, c_lt, c_le, c_gt, c_ge, c_ltS, c_geS, c_eq, c_ne, k_l, k_i, c_inS, c_niT, c_niL, c_inL, l_lst, l_tup, l_str, b_all, b_ord, b_repr, t_b, bo_b, in_i, ls_l, it_l, it_t, it_s, m_is_name, b_is_name, need, hl, hl2, q1, q2, put]
      rw [lcGo_map (f := fun d => .bool (chB d))]
      · have e : ∀ cs : List Nat, (List.map chB (List.map (fun c => PyData.str ⟨#[c]⟩) cs)).all id = cs.all fun c => decide (97 ≤ c ∧ c ≤ 122) := fun cs => by
          rw [List.map_map, List.all_map]
          rfl
        rw [b_ret, b_ret, b_all, boolsOf_map]
        dsimp only
        rw [e]
        simp only [b_ret, nameB, decide_eq_true h1, Bool.true_and]
      · intro d hd
        obtain ⟨c, _, rfl⟩ := List.mem_map.mp hd
        refine ⟨_, rfl, rfl, ?_⟩
        have := letters c
        simp only [gr, b_ret, List.getElem?_cons_succ, List.getElem?_cons_zero, SV.d, c_inS, need]
        rw [if_pos (by rfl)]
        exact congrArg (fun z => M.ret (PyData.bool z)) this
    · by_cases q1 : (1 : Int) ≤ a.length
      · have q2 : ¬ (a.length : Int) ≤ 8 := by omega
        have : nameB (.str a) = false := by show (decide _ && _) = false; rw [decide_eq_false h1]; rfl
        simp [nFn, runD, exGo, ev, rdv, tst, ev0, gs, gr, go, itmv, optv, isTy, plainD, SV.d, wip, datOnly, tgt, b_ret, b_bad, need_true, c_lt, c_le, c_gt, c_ge, c_ltS, c_geS, c_eq, c_ne, k_l, k_i, c_inS, c_niT, c_niL, c_inL, l_lst, l_tup, l_str, b_all, b_ord, b_repr, t_b, bo_b, in_i, ls_l, it_l, it_t, it_s, m_is_name, b_is_name, need, hl, q1, q2, this]
      · have : nameB (.str a) = false := by show (decide _ && _) = false; rw [decide_eq_false h1]; rfl
        simp [nFn, runD, exGo, ev, rdv, tst, ev0, gs, gr, go, itmv, optv, isTy, plainD, SV.d, wip, datOnly, tgt, b_ret, b_bad, need_true, c_lt, c_le, c_gt, c_ge, c_ltS, c_geS, c_eq, c_ne, k_l, k_i, c_inS, c_niT, c_niL, c_inL, l_lst, l_tup, l_str, b_all, b_ord, b_repr, t_b, bo_b, in_i, ls_l, it_l, it_t, it_s, m_is_name, b_is_name, need, hl, q1, this]
  | dict _ => have := h.lay; simp [nFn, runD, exGo, ev, rdv, tst, ev0, gs, gr, go, itmv, optv, isTy, plainD, SV.d, wip, datOnly, tgt, b_ret, b_bad, need_true, c_lt, c_le, c_gt, c_ge, c_ltS, c_geS, c_eq, c_ne, k_l, k_i, c_inS, c_niT, c_niL, c_inL, l_lst, l_tup, l_str, b_all, b_ord, b_repr, t_b, bo_b, in_i, ls_l, it_l, it_t, it_s, PyData.canLay0] at this
  | _ => simp [nFn, runD, exGo, ev, rdv, tst, ev0, gs, gr, go, itmv, optv, isTy, plainD, SV.d, wip, datOnly, tgt, b_ret, b_bad, need_true, c_lt, c_le, c_gt, c_ge, c_ltS, c_geS, c_eq, c_ne, k_l, k_i, c_inS, c_niT, c_niL, c_inL, l_lst, l_tup, l_str, b_all, b_ord, b_repr, t_b, bo_b, in_i, ls_l, it_l, it_t, it_s, m_is_name, b_is_name, nameB]
theorem s_lname (d : D) (h : Gd d) : m_law_named [d] = .ret (.bool (nameB d)) := by
  cases d with
  | str a =>
    have hl := h.strL
    have hl2 : a.cps.size ≤ sizeLine := hl
    by_cases h1 : 1 ≤ a.length ∧ a.length ≤ 8
    · have q1 : 0 < a.length := by omega
      have q2 : (a.length : Int) < 9 := by omega
      simp [nFn, runD, exGo, ev, rdv, tst, ev0, gs, gr, go, itmv, optv, isTy, plainD, SV.d, wip, datOnly, tgt, b_ret, b_bad, need_true, c_lt, c_le, c_gt, c_ge, c_ltS, c_geS, c_eq, c_ne, k_l, k_i, c_inS, c_niT, c_niL, c_inL, l_lst, l_tup, l_str, b_all, b_ord, b_repr, t_b, bo_b, in_i, ls_l, it_l, it_t, it_s, m_law_named, b_law_named, need, hl, hl2, q1, q2, put]
      rw [lcGo_flt (p := fun d => !chB d)]
      · have e : ∀ cs : List Nat, (List.map (fun c => PyData.str ⟨#[c]⟩) cs).all chB = cs.all fun c => decide (97 ≤ c ∧ c ≤ 122) := fun cs => by
          rw [List.all_map]
          rfl
        have sh : SeqAt.shaped (.list (List.filter (fun d => !chB d) (List.map (fun c => PyData.str ⟨#[c]⟩) a.cps.toList))) = true := Gd.shL fun d hd => by
          obtain ⟨c, hc, rfl⟩ := List.mem_map.mp (List.mem_filter.mp hd).1
          exact h.chr c hc
        simp only [b_ret, c_eq, k_l, sh, shaped_nil, Bool.and_self, need_true, eqv_nil, flt_nil, e, nameB, decide_eq_true h1, Bool.true_and, and_self, if_true]
      · intro d hd
        obtain ⟨c, _, rfl⟩ := List.mem_map.mp hd
        refine ⟨_, rfl, ?_, rfl⟩
        have q : chB (.str ⟨#[c]⟩) = decide (97 ≤ c ∧ c ≤ 122) := rfl
        rw [q]
        have e1 : bi1 .ord (.str ⟨#[c]⟩) = .ret (.int (c : Nat)) := rfl
        simp [nFn, runD, exGo, ev, rdv, tst, ev0, gs, gr, go, itmv, optv, isTy, plainD, SV.d, wip, datOnly, tgt, b_ret, b_bad, need_true, c_lt, c_le, c_gt, c_ge, c_ltS, c_geS, c_eq, c_ne, k_l, k_i, c_inS, c_niT, c_niL, c_inL, l_lst, l_tup, l_str, b_all, b_ord, b_repr, t_b, bo_b, in_i, ls_l, it_l, it_t, it_s, e1]
        by_cases z1 : 97 ≤ c
        · have : (97 : Int) ≤ c := by omega
          simp [nFn, runD, exGo, ev, rdv, tst, ev0, gs, gr, go, itmv, optv, isTy, plainD, SV.d, wip, datOnly, tgt, b_ret, b_bad, need_true, c_lt, c_le, c_gt, c_ge, c_ltS, c_geS, c_eq, c_ne, k_l, k_i, c_inS, c_niT, c_niL, c_inL, l_lst, l_tup, l_str, b_all, b_ord, b_repr, t_b, bo_b, in_i, ls_l, it_l, it_t, it_s, this, z1]
          omega
        · have : ¬ (97 : Int) ≤ c := by omega
          simp [nFn, runD, exGo, ev, rdv, tst, ev0, gs, gr, go, itmv, optv, isTy, plainD, SV.d, wip, datOnly, tgt, b_ret, b_bad, need_true, c_lt, c_le, c_gt, c_ge, c_ltS, c_geS, c_eq, c_ne, k_l, k_i, c_inS, c_niT, c_niL, c_inL, l_lst, l_tup, l_str, b_all, b_ord, b_repr, t_b, bo_b, in_i, ls_l, it_l, it_t, it_s, this, z1]
    · have nn : nameB (.str a) = false := by show (decide _ && _) = false; rw [decide_eq_false h1]; rfl
      by_cases q1 : 0 < a.length
      · have q2 : ¬ (a.length : Int) < 9 := by omega
        simp [nFn, runD, exGo, ev, rdv, tst, ev0, gs, gr, go, itmv, optv, isTy, plainD, SV.d, wip, datOnly, tgt, b_ret, b_bad, need_true, c_lt, c_le, c_gt, c_ge, c_ltS, c_geS, c_eq, c_ne, k_l, k_i, c_inS, c_niT, c_niL, c_inL, l_lst, l_tup, l_str, b_all, b_ord, b_repr, t_b, bo_b, in_i, ls_l, it_l, it_t, it_s, m_law_named, b_law_named, need, hl, q1, q2, nn]
      · simp [nFn, runD, exGo, ev, rdv, tst, ev0, gs, gr, go, itmv, optv, isTy, plainD, SV.d, wip, datOnly, tgt, b_ret, b_bad, need_true, c_lt, c_le, c_gt, c_ge, c_ltS, c_geS, c_eq, c_ne, k_l, k_i, c_inS, c_niT, c_niL, c_inL, l_lst, l_tup, l_str, b_all, b_ord, b_repr, t_b, bo_b, in_i, ls_l, it_l, it_t, it_s, m_law_named, b_law_named, need, hl, q1, nn]
  | dict _ => have := h.lay; simp [nFn, runD, exGo, ev, rdv, tst, ev0, gs, gr, go, itmv, optv, isTy, plainD, SV.d, wip, datOnly, tgt, b_ret, b_bad, need_true, c_lt, c_le, c_gt, c_ge, c_ltS, c_geS, c_eq, c_ne, k_l, k_i, c_inS, c_niT, c_niL, c_inL, l_lst, l_tup, l_str, b_all, b_ord, b_repr, t_b, bo_b, in_i, ls_l, it_l, it_t, it_s, PyData.canLay0] at this
  | _ => simp [nFn, runD, exGo, ev, rdv, tst, ev0, gs, gr, go, itmv, optv, isTy, plainD, SV.d, wip, datOnly, tgt, b_ret, b_bad, need_true, c_lt, c_le, c_gt, c_ge, c_ltS, c_geS, c_eq, c_ne, k_l, k_i, c_inS, c_niT, c_niL, c_inL, l_lst, l_tup, l_str, b_all, b_ord, b_repr, t_b, bo_b, in_i, ls_l, it_l, it_t, it_s, m_law_named, b_law_named, nameB]
def pageB : D → Bool
  | .tuple [a, b] => nameB a && keyB b
  | _ => false
theorem ix0 (a b : D) : idx2 (.tuple [a, b]) (.int 0) = .ret a := rfl
theorem ix1 (a b : D) : idx2 (.tuple [a, b]) (.int 1) = .ret b := rfl
theorem len2 {ds : List D} (h : ds.length = 2) : ∃ a b, ds = [a, b] := by
  match ds, h with
  | [a, b], _ => exact ⟨a, b, rfl⟩
theorem eq22 : PyData.eqv (.int 2) (.int 2) = true := rfl
theorem sh_int (i : Int) : SeqAt.shaped (.int i) = true := rfl
theorem eq_len (n : Nat) : PyData.eqv (.int n) (.int 2) = decide (n = 2) := by
  show ((n : Int) == 2) = _
  rw [Bool.eq_iff_iff]
  simp [nFn, runD, exGo, ev, rdv, tst, ev0, gs, gr, go, itmv, optv, isTy, plainD, SV.d, wip, datOnly, tgt, b_ret, b_bad, need_true, c_lt, c_le, c_gt, c_ge, c_ltS, c_geS, c_eq, c_ne, k_l, k_i, c_inS, c_niT, c_niL, c_inL, l_lst, l_tup, l_str, b_all, b_ord, b_repr, t_b, bo_b, in_i, ls_l, it_l, it_t, it_s]
  omega
theorem s_text (d : D) (h : Gd d) : m_is_text [d] = .ret (.bool (pageB d)) := by
  cases d with
  | tuple ds =>
    by_cases hl : ds.length = 2
    · obtain ⟨a, b, rfl⟩ := len2 hl
      have ha := h.tup a (by simp [nFn, runD, exGo, ev, rdv, tst, ev0, gs, gr, go, itmv, optv, isTy, plainD, SV.d, wip, datOnly, tgt, b_ret, b_bad, need_true, c_lt, c_le, c_gt, c_ge, c_ltS, c_geS, c_eq, c_ne, k_l, k_i, c_inS, c_niT, c_niL, c_inL, l_lst, l_tup, l_str, b_all, b_ord, b_repr, t_b, bo_b, in_i, ls_l, it_l, it_t, it_s])
      have hb := h.tup b (by simp [nFn, runD, exGo, ev, rdv, tst, ev0, gs, gr, go, itmv, optv, isTy, plainD, SV.d, wip, datOnly, tgt, b_ret, b_bad, need_true, c_lt, c_le, c_gt, c_ge, c_ltS, c_geS, c_eq, c_ne, k_l, k_i, c_inS, c_niT, c_niL, c_inL, l_lst, l_tup, l_str, b_all, b_ord, b_repr, t_b, bo_b, in_i, ls_l, it_l, it_t, it_s])
      have e1 := s_name a ha
      have e2 := s_number b hb.plain
      simp [nFn, runD, exGo, ev, rdv, tst, ev0, gs, gr, go, itmv, optv, isTy, plainD, SV.d, wip, datOnly, tgt, b_ret, b_bad, need_true, c_lt, c_le, c_gt, c_ge, c_ltS, c_geS, c_eq, c_ne, k_l, k_i, c_inS, c_niT, c_niL, c_inL, l_lst, l_tup, l_str, b_all, b_ord, b_repr, t_b, bo_b, in_i, ls_l, it_l, it_t, it_s, m_is_text, b_is_text, ix0, ix1, Fc_4_2, Fc_4_1, e1, e2, sh_int, eq22, pageB]
      cases nameB a <;> simp [nFn, runD, exGo, ev, rdv, tst, ev0, gs, gr, go, itmv, optv, isTy, plainD, SV.d, wip, datOnly, tgt, b_ret, b_bad, need_true, c_lt, c_le, c_gt, c_ge, c_ltS, c_geS, c_eq, c_ne, k_l, k_i, c_inS, c_niT, c_niL, c_inL, l_lst, l_tup, l_str, b_all, b_ord, b_repr, t_b, bo_b, in_i, ls_l, it_l, it_t, it_s]
    · have : pageB (.tuple ds) = false := by
        unfold pageB
        split
        · rename_i q; cases q; exact absurd rfl hl
        · rfl
      simp [nFn, runD, exGo, ev, rdv, tst, ev0, gs, gr, go, itmv, optv, isTy, plainD, SV.d, wip, datOnly, tgt, b_ret, b_bad, need_true, c_lt, c_le, c_gt, c_ge, c_ltS, c_geS, c_eq, c_ne, k_l, k_i, c_inS, c_niT, c_niL, c_inL, l_lst, l_tup, l_str, b_all, b_ord, b_repr, t_b, bo_b, in_i, ls_l, it_l, it_t, it_s, m_is_text, b_is_text, sh_int, eq_len, hl, this]
  | dict _ => have := h.lay; simp [nFn, runD, exGo, ev, rdv, tst, ev0, gs, gr, go, itmv, optv, isTy, plainD, SV.d, wip, datOnly, tgt, b_ret, b_bad, need_true, c_lt, c_le, c_gt, c_ge, c_ltS, c_geS, c_eq, c_ne, k_l, k_i, c_inS, c_niT, c_niL, c_inL, l_lst, l_tup, l_str, b_all, b_ord, b_repr, t_b, bo_b, in_i, ls_l, it_l, it_t, it_s, PyData.canLay0] at this
  | _ => simp [nFn, runD, exGo, ev, rdv, tst, ev0, gs, gr, go, itmv, optv, isTy, plainD, SV.d, wip, datOnly, tgt, b_ret, b_bad, need_true, c_lt, c_le, c_gt, c_ge, c_ltS, c_geS, c_eq, c_ne, k_l, k_i, c_inS, c_niT, c_niL, c_inL, l_lst, l_tup, l_str, b_all, b_ord, b_repr, t_b, bo_b, in_i, ls_l, it_l, it_t, it_s, m_is_text, b_is_text, pageB]
theorem s_lpage (d : D) (h : Gd d) : m_law_page [d] = .ret (.bool (pageB d)) := by
  cases d with
  | tuple ds =>
    by_cases hl : ds.length = 2
    · obtain ⟨a, b, rfl⟩ := len2 hl
      have ha := h.tup a (by simp [nFn, runD, exGo, ev, rdv, tst, ev0, gs, gr, go, itmv, optv, isTy, plainD, SV.d, wip, datOnly, tgt, b_ret, b_bad, need_true, c_lt, c_le, c_gt, c_ge, c_ltS, c_geS, c_eq, c_ne, k_l, k_i, c_inS, c_niT, c_niL, c_inL, l_lst, l_tup, l_str, b_all, b_ord, b_repr, t_b, bo_b, in_i, ls_l, it_l, it_t, it_s])
      have hb := h.tup b (by simp [nFn, runD, exGo, ev, rdv, tst, ev0, gs, gr, go, itmv, optv, isTy, plainD, SV.d, wip, datOnly, tgt, b_ret, b_bad, need_true, c_lt, c_le, c_gt, c_ge, c_ltS, c_geS, c_eq, c_ne, k_l, k_i, c_inS, c_niT, c_niL, c_inL, l_lst, l_tup, l_str, b_all, b_ord, b_repr, t_b, bo_b, in_i, ls_l, it_l, it_t, it_s])
      have e1 := s_lname a ha
      have e2 := s_lkey b hb.plain
      simp [nFn, runD, exGo, ev, rdv, tst, ev0, gs, gr, go, itmv, optv, isTy, plainD, SV.d, wip, datOnly, tgt, b_ret, b_bad, need_true, c_lt, c_le, c_gt, c_ge, c_ltS, c_geS, c_eq, c_ne, k_l, k_i, c_inS, c_niT, c_niL, c_inL, l_lst, l_tup, l_str, b_all, b_ord, b_repr, t_b, bo_b, in_i, ls_l, it_l, it_t, it_s, m_law_page, b_law_page, ix0, ix1, Fc_16_15, Fc_16_16, e1, e2, sh_int, eq22, pageB]
      cases nameB a <;> simp [nFn, runD, exGo, ev, rdv, tst, ev0, gs, gr, go, itmv, optv, isTy, plainD, SV.d, wip, datOnly, tgt, b_ret, b_bad, need_true, c_lt, c_le, c_gt, c_ge, c_ltS, c_geS, c_eq, c_ne, k_l, k_i, c_inS, c_niT, c_niL, c_inL, l_lst, l_tup, l_str, b_all, b_ord, b_repr, t_b, bo_b, in_i, ls_l, it_l, it_t, it_s]
    · have : pageB (.tuple ds) = false := by
        unfold pageB
        split
        · rename_i q; cases q; exact absurd rfl hl
        · rfl
      simp [nFn, runD, exGo, ev, rdv, tst, ev0, gs, gr, go, itmv, optv, isTy, plainD, SV.d, wip, datOnly, tgt, b_ret, b_bad, need_true, c_lt, c_le, c_gt, c_ge, c_ltS, c_geS, c_eq, c_ne, k_l, k_i, c_inS, c_niT, c_niL, c_inL, l_lst, l_tup, l_str, b_all, b_ord, b_repr, t_b, bo_b, in_i, ls_l, it_l, it_t, it_s, m_law_page, b_law_page, sh_int, eq_len, hl, this]
  | dict _ => have := h.lay; simp [nFn, runD, exGo, ev, rdv, tst, ev0, gs, gr, go, itmv, optv, isTy, plainD, SV.d, wip, datOnly, tgt, b_ret, b_bad, need_true, c_lt, c_le, c_gt, c_ge, c_ltS, c_geS, c_eq, c_ne, k_l, k_i, c_inS, c_niT, c_niL, c_inL, l_lst, l_tup, l_str, b_all, b_ord, b_repr, t_b, bo_b, in_i, ls_l, it_l, it_t, it_s, PyData.canLay0] at this
  | _ => simp [nFn, runD, exGo, ev, rdv, tst, ev0, gs, gr, go, itmv, optv, isTy, plainD, SV.d, wip, datOnly, tgt, b_ret, b_bad, need_true, c_lt, c_le, c_gt, c_ge, c_ltS, c_geS, c_eq, c_ne, k_l, k_i, c_inS, c_niT, c_niL, c_inL, l_lst, l_tup, l_str, b_all, b_ord, b_repr, t_b, bo_b, in_i, ls_l, it_l, it_t, it_s, m_law_page, b_law_page, pageB]
theorem s_thing (d : D) (h : Gd d) : m_is_thing [d] = .ret (.bool (keyB d || pageB d)) := by
  have e1 := s_key d h.plain
  have e2 := s_text d h
  simp [nFn, runD, exGo, ev, rdv, tst, ev0, gs, gr, go, itmv, optv, isTy, plainD, SV.d, wip, datOnly, tgt, b_ret, b_bad, need_true, c_lt, c_le, c_gt, c_ge, c_ltS, c_geS, c_eq, c_ne, k_l, k_i, c_inS, c_niT, c_niL, c_inL, l_lst, l_tup, l_str, b_all, b_ord, b_repr, t_b, bo_b, in_i, ls_l, it_l, it_t, it_s, m_is_thing, b_is_thing, Fc_5_3, Fc_5_4, e1, e2]
  cases keyB d <;> simp [nFn, runD, exGo, ev, rdv, tst, ev0, gs, gr, go, itmv, optv, isTy, plainD, SV.d, wip, datOnly, tgt, b_ret, b_bad, need_true, c_lt, c_le, c_gt, c_ge, c_ltS, c_geS, c_eq, c_ne, k_l, k_i, c_inS, c_niT, c_niL, c_inL, l_lst, l_tup, l_str, b_all, b_ord, b_repr, t_b, bo_b, in_i, ls_l, it_l, it_t, it_s]
/-! rising rows -/
def ltD : D → D → Bool
  | .int a, .int b => decide (a < b)
  | .str a, .str b => decide (a.cps.toList < b.cps.toList)
  | _, _ => false
def riseB : List D → Bool
  | [] => true
  | [_] => true
  | x :: y :: r => ltD x y && riseB (y :: r)
def Homog (ds : List D) : Prop := (∀ d ∈ ds, ∃ i, d = .int i) ∨ ∀ d ∈ ds, ∃ s, d = .str s
theorem hom_lt {ds : List D} (h : Homog ds) {x y : D} (hx : x ∈ ds) (hy : y ∈ ds) : cmp2 .lt x y = .ret (.bool (ltD x y)) ∧ cmp2 .ge x y = .ret (.bool (!ltD x y)) := by
  rcases h with h | h
  · obtain ⟨i, rfl⟩ := h x hx
    obtain ⟨j, rfl⟩ := h y hy
    refine ⟨rfl, ?_⟩
    show M.ret (PyData.bool (decide (j ≤ i))) = M.ret (PyData.bool (!decide (i < j)))
    congr 2
    rw [Bool.eq_iff_iff]
    simp [nFn, runD, exGo, ev, rdv, tst, ev0, gs, gr, go, itmv, optv, isTy, plainD, SV.d, wip, datOnly, tgt, b_ret, b_bad, need_true, c_lt, c_le, c_gt, c_ge, c_ltS, c_geS, c_eq, c_ne, k_l, k_i, c_inS, c_niT, c_niL, c_inL, l_lst, l_tup, l_str, b_all, b_ord, b_repr, t_b, bo_b, in_i, ls_l, it_l, it_t, it_s]
  · obtain ⟨i, rfl⟩ := h x hx
    obtain ⟨j, rfl⟩ := h y hy
    exact ⟨rfl, rfl⟩
def pairB : D → Bool
  | .tuple [x, y] => ltD x y
  | _ => false
theorem zip_rise : ∀ ds : List D, (zipGo ds (ds.drop 1)).all pairB = riseB ds
  | [] => rfl
  | [_] => rfl
  | x :: y :: r => by
    show (ltD x y && (zipGo (y :: r) r).all pairB) = _
    rw [show (zipGo (y :: r) r).all pairB = riseB (y :: r) from zip_rise (y :: r)]
    rfl
theorem zip_mem : ∀ {ds es : List D} {p : D}, p ∈ zipGo ds es → ∃ x y, p = .tuple [x, y] ∧ x ∈ ds ∧ y ∈ es
  | [], _, p, h => by cases h
  | _ :: _, [], p, h => by cases h
  | d :: r, e :: s, p, h => by
    rcases List.mem_cons.mp h with q | q
    · exact ⟨d, e, q, List.mem_cons_self, List.mem_cons_self⟩
    · obtain ⟨x, y, h1, h2, h3⟩ := zip_mem q
      exact ⟨x, y, h1, List.mem_cons_of_mem _ h2, List.mem_cons_of_mem _ h3⟩
theorem zip_len : ∀ (ds es : List D), (zipGo ds es).length ≤ ds.length
  | [], _ => Nat.zero_le _
  | _ :: _, [] => Nat.zero_le _
  | d :: r, e :: s => Nat.succ_le_succ (zip_len r s)
theorem cut1 (ds : List D) : Pf.cutD ds (some 1) none = ds.drop 1 := by
  unfold Pf.cutD
  cases ds with
  | nil => rfl
  | cons x r =>
    have e1 : slE (x :: r).length 0 (some 1) = 1 := by
      simp [nFn, runD, exGo, ev, rdv, tst, ev0, gs, gr, go, itmv, optv, isTy, plainD, SV.d, wip, datOnly, tgt, b_ret, b_bad, need_true, c_lt, c_le, c_gt, c_ge, c_ltS, c_geS, c_eq, c_ne, k_l, k_i, c_inS, c_niT, c_niL, c_inL, l_lst, l_tup, l_str, b_all, b_ord, b_repr, t_b, bo_b, in_i, ls_l, it_l, it_t, it_s, slE, HT.sIx]
      try omega
    have e2 : slE (x :: r).length (x :: r).length none = (x :: r).length := by simp [nFn, runD, exGo, ev, rdv, tst, ev0, gs, gr, go, itmv, optv, isTy, plainD, SV.d, wip, datOnly, tgt, b_ret, b_bad, need_true, c_lt, c_le, c_gt, c_ge, c_ltS, c_geS, c_eq, c_ne, k_l, k_i, c_inS, c_niT, c_niL, c_inL, l_lst, l_tup, l_str, b_all, b_ord, b_repr, t_b, bo_b, in_i, ls_l, it_l, it_t, it_s, slE, HT.sIx]
    rw [e1, e2]
    simp [nFn, runD, exGo, ev, rdv, tst, ev0, gs, gr, go, itmv, optv, isTy, plainD, SV.d, wip, datOnly, tgt, b_ret, b_bad, need_true, c_lt, c_le, c_gt, c_ge, c_ltS, c_geS, c_eq, c_ne, k_l, k_i, c_inS, c_niT, c_niL, c_inL, l_lst, l_tup, l_str, b_all, b_ord, b_repr, t_b, bo_b, in_i, ls_l, it_l, it_t, it_s]
theorem rises_core {ds : List D} (h : Homog ds) (hl : ds.length ≤ 500000) : (zipGo ds (ds.drop 1)).length ≤ sizeLine ∧ lcGo (fun d => (tgt (.tup (.cons (.var 1) (.cons (.var 2) .nil))) d [some (.dat (.int 0)), none, none])) (fun _ => M.ret true) (fun ρ => (gr ρ 1).bind fun x => (gr ρ 2).bind fun y => cmp2 .lt x y) (zipGo ds (ds.drop 1)) = .ret ((zipGo ds (ds.drop 1)).map fun p => .bool (pairB p)) := by
  refine ⟨by have := zip_len ds (ds.drop 1); rw [sizeLine_eq]; omega, lcGo_map _ fun p hp => ?_⟩
  obtain ⟨x, y, rfl, hx, hy⟩ := zip_mem hp
  refine ⟨_, rfl, rfl, ?_⟩
  exact (hom_lt h hx (List.mem_of_mem_drop hy)).1
end K01
namespace K01
open PySem PySem.Spec PyProof.Rows L2 Pf
theorem sl_t (a : List D) (lo hi : Option Int) : sl2 (.tuple a) lo hi = .ret (.tuple (Pf.cutD a lo hi)) := rfl
theorem sl_l (a : List D) (lo hi : Option Int) : sl2 (.list a) lo hi = .ret (.list (Pf.cutD a lo hi)) := rfl
theorem zp_t (a b : List D) : zipD (.tuple a) (.tuple b) = need (decide ((zipGo a b).length ≤ sizeLine)) (.ret (.list (zipGo a b))) := rfl
theorem zp_l (a b : List D) : zipD (.list a) (.list b) = need (decide ((zipGo a b).length ≤ sizeLine)) (.ret (.list (zipGo a b))) := rfl
theorem s_rises {ds : List D} (h : Homog ds) (hl : ds.length ≤ 500000) (s : D) (hs : s = .tuple ds ∨ s = .list ds) : m_rises [s] = .ret (.bool (riseB ds)) := by
  obtain ⟨h1, _⟩ := rises_core h hl
  have zr := zip_rise ds
  rw [List.drop_one] at h1 zr
  rcases hs with rfl | rfl
  · simp [nFn, runD, exGo, ev, rdv, tst, ev0, gs, gr, go, itmv, optv, isTy, plainD, SV.d, wip, datOnly, b_ret, b_bad, need_true, c_lt, c_le, c_gt, c_ge, c_ltS, c_geS, c_eq, c_ne, k_l, k_i, c_inS, c_niT, c_niL, c_inL, l_lst, l_tup, l_str, b_all, b_ord, b_repr, t_b, bo_b, in_i, ls_l, it_l, it_t, it_s, m_rises, b_rises, zp_t, sl_t, cut1, h1]
    rw [lcGo_map (f := fun p => .bool (pairB p)) (zipGo ds ds.tail) fun p hp => by
      obtain ⟨x, y, rfl, hx, hy⟩ := zip_mem hp
      exact ⟨_, rfl, rfl, (hom_lt h hx (List.mem_of_mem_tail hy)).1⟩]
    simp only [b_ret, b_all, boolsOf_map, all_id, zr]
  · simp [nFn, runD, exGo, ev, rdv, tst, ev0, gs, gr, go, itmv, optv, isTy, plainD, SV.d, wip, datOnly, b_ret, b_bad, need_true, c_lt, c_le, c_gt, c_ge, c_ltS, c_geS, c_eq, c_ne, k_l, k_i, c_inS, c_niT, c_niL, c_inL, l_lst, l_tup, l_str, b_all, b_ord, b_repr, t_b, bo_b, in_i, ls_l, it_l, it_t, it_s, m_rises, b_rises, zp_l, sl_l, cut1, h1]
    rw [lcGo_map (f := fun p => .bool (pairB p)) (zipGo ds ds.tail) fun p hp => by
      obtain ⟨x, y, rfl, hx, hy⟩ := zip_mem hp
      exact ⟨_, rfl, rfl, (hom_lt h hx (List.mem_of_mem_tail hy)).1⟩]
    simp only [b_ret, b_all, boolsOf_map, all_id, zr]
/-! the law's own: by places -/
theorem ix_in {ds : List D} {i : Nat} {x : D} (h : ds[i]? = some x) : idx2 (.tuple ds) (.int (i : Int)) = .ret x ∧ idx2 (.list ds) (.int (i : Int)) = .ret x := by
  have hi : i < ds.length := (List.getElem?_eq_some_iff.mp h).1
  have e : (ixAt ds.length (i : Int)).bind (ds[·]?) = some x := by
    have : ixAt ds.length (i : Int) = some i := by
      unfold ixAt L2.ixN
      simp [nFn, runD, exGo, ev, rdv, tst, ev0, gs, gr, go, itmv, optv, isTy, plainD, SV.d, wip, datOnly, b_ret, b_bad, need_true, c_lt, c_le, c_gt, c_ge, c_ltS, c_geS, c_eq, c_ne, k_l, k_i, c_inS, c_niT, c_niL, c_inL, l_lst, l_tup, l_str, b_all, b_ord, b_repr, t_b, bo_b, in_i, ls_l, it_l, it_t, it_s, hi]
      try omega
    rw [this]
    exact h
  unfold idx2
  simp only [e, and_self]
def stepB (ds : List D) (d : D) : Bool := match d with
  | .int k => match ds[(k - 1).toNat]?, ds[k.toNat]? with
    | some x, some y => ltD x y
    | _, _ => false
  | _ => false
theorem rise_steps : ∀ (ds : List D), ((List.range (ds.length - 1)).map fun i => PyData.int (1 + (i : Nat))).all (stepB ds) = riseB ds
  | [] => rfl
  | [_] => rfl
  | x :: y :: r => by
    have ih := rise_steps (y :: r)
    have e : (x :: y :: r).length - 1 = ((y :: r).length - 1) + 1 := by simp [nFn, runD, exGo, ev, rdv, tst, ev0, gs, gr, go, itmv, optv, isTy, plainD, SV.d, wip, datOnly, b_ret, b_bad, need_true, c_lt, c_le, c_gt, c_ge, c_ltS, c_geS, c_eq, c_ne, k_l, k_i, c_inS, c_niT, c_niL, c_inL, l_lst, l_tup, l_str, b_all, b_ord, b_repr, t_b, bo_b, in_i, ls_l, it_l, it_t, it_s]
    rw [e, List.range_succ_eq_map, List.map_cons, List.all_cons, List.map_map, riseB]
    congr 1
    rw [← ih, List.all_map, List.all_map]
    congr 1
    funext i
    show stepB (x :: y :: r) (.int (1 + ((i + 1 : Nat) : Int))) = stepB (y :: r) (.int (1 + (i : Nat)))
    unfold stepB
    have e1 : (1 + ((i + 1 : Nat) : Int) - 1).toNat = i + 1 := by omega
    have e2 : (1 + ((i + 1 : Nat) : Int)).toNat = i + 2 := by omega
    have e3 : (1 + (i : Int) - 1).toNat = i := by omega
    have e4 : (1 + (i : Int)).toNat = i + 1 := by omega
    simp only [e1, e2, e3, e4, List.getElem?_cons_succ]
theorem ltest {ds : List D} (h : Homog ds) {i : Nat} (hi : i < ds.length - 1) (s : D) (hs : s = .tuple ds ∨ s = .list ds) : (((idx2 s (.int (1 + (i : Int) - 1))).bind fun x => (idx2 s (.int (1 + (i : Int)))).bind fun y => cmp2 .ge x y) = .ret (.bool (!stepB ds (.int (1 + (i : Int)))))) := by
  have e1 : (1 + (i : Int) - 1) = ((i : Nat) : Int) := by omega
  have e2 : (1 + (i : Int)) = ((i + 1 : Nat) : Int) := by omega
  have g1 : ds[i]? = some ds[i] := List.getElem?_eq_getElem (by omega)
  have g2 : ds[i + 1]? = some ds[i + 1] := List.getElem?_eq_getElem (by omega)
  have q : stepB ds (.int (1 + (i : Int))) = ltD ds[i] ds[i + 1] := by
    unfold stepB
    have e3 : (1 + (i : Int) - 1).toNat = i := by omega
    have e4 : (1 + (i : Int)).toNat = i + 1 := by omega
    simp only [e3, e4, g1, g2]
  rw [q, e1, e2]
  have c := (hom_lt h (List.getElem_mem (l := ds) (n := i) (by omega)) (List.getElem_mem (l := ds) (n := i + 1) (by omega))).2
  rcases hs with rfl | rfl
  · rw [(ix_in g1).1, (ix_in g2).1, b_ret, b_ret, c]
  · rw [(ix_in g1).2, (ix_in g2).2, b_ret, b_ret, c]
theorem gd_intR (lo : Int) (n : Nat) (hn : n ≤ 500000) (h : 0 ≤ lo ∧ lo < 2 ^ 20) : ∀ d ∈ intR lo n, Gd d := fun d hd => by
  obtain ⟨i, hi, rfl⟩ := List.mem_map.mp hd
  have hi := List.mem_range.mp hi
  refine ⟨rfl, Nat.zero_le _, ?_⟩
  simp only [PyData.weight]
  split
  · omega
  · have : (lo + (i : Int)).natAbs < 2 ^ 24 := by omega
    have := Nat.log2_lt (n := (lo + (i : Int)).natAbs) (k := 24)
    have hne : (lo + (i : Int)).natAbs ≠ 0 := by
      rename_i q _
      intro z
      apply q
      simp [nFn, runD, exGo, ev, rdv, tst, ev0, gs, gr, go, itmv, optv, isTy, plainD, SV.d, wip, datOnly, b_ret, b_bad, need_true, c_lt, c_le, c_gt, c_ge, c_ltS, c_geS, c_eq, c_ne, k_l, k_i, c_inS, c_niT, c_niL, c_inL, l_lst, l_tup, l_str, b_all, b_ord, b_repr, t_b, bo_b, in_i, ls_l, it_l, it_t, it_s]
      omega
    have := (this hne).mpr (by assumption)
    omega
theorem o_sub (a b : Int) : op2 .sub (.int a) (.int b) = .ret (.int (a - b)) := rfl
theorem s_lrises {ds : List D} (h : Homog ds) (hl : ds.length ≤ 500000) (s : D) (hs : s = .tuple ds ∨ s = .list ds) : m_law_rises [s] = .ret (.bool (riseB ds)) := by
  have ln : bi1 .len s = .ret (.int ds.length) := by rcases hs with rfl | rfl <;> rfl
  have st := rise_steps ds
  have r1 : ((ds.length : Int) - 1).toNat = ds.length - 1 := by omega
  have rg : ev F_17 (.rng2 (.cst (.int 1)) (.bi .len (.var 0))) [some (.dat s), none] = .ret (.list (intR 1 (ds.length - 1))) := by
    rw [rng2_eq (i := 1) (j := ds.length) rfl (by show bi1 .len s = _; exact ln) (by omega) (by omega), r1]
  have main : ev F_17 (.lc [1] (.var 1) (.rng2 (.cst (.int 1)) (.bi .len (.var 0))) (.cmp .ge (.idx (.var 0) (.bin .sub (.var 1) (.cst (.int 1)))) (.idx (.var 0) (.var 1))) (.var 1)) [some (.dat s), none] = .ret (.list ((intR 1 (ds.length - 1)).filter fun d => !stepB ds d)) := by
    refine lc_flt (by show ((ev F_17 (.rng2 (.cst (.int 1)) (.bi .len (.var 0))) [some (.dat s), none]).bind itmD) = _; rw [rg]; rfl) rfl fun d hd => ?_
    obtain ⟨i, hi, rfl⟩ := List.mem_map.mp hd
    have hi := List.mem_range.mp hi
    refine ⟨[some (.dat s), some (.dat (.int (1 + (i : Nat))))], rfl, ?_, rfl⟩
    show (((idx2 s (.int (1 + (i : Int) - 1))).bind fun x => (idx2 s (.int (1 + (i : Int)))).bind fun y => cmp2 .ge x y).bind truD) = _
    rw [ltest h hi s hs]
    rfl
  have sh : SeqAt.shaped (.list ((intR 1 (ds.length - 1)).filter fun d => !stepB ds d)) = true := Gd.shL fun d hd => gd_intR 1 _ (by omega) (by omega) d (List.mem_filter.mp hd).1
  show runD fu 2 F_17 b_law_rises [s] = _
  unfold b_law_rises
  rw [run_ret]
  show ((ev F_17 (.lc _ _ _ _ _) [some (.dat s), none]).bind fun x => (M.ret (PyData.list [])).bind fun y => cmp2 .eq x y) = _
  rw [main, b_ret, b_ret, c_eq, k_l, sh, shaped_nil, eqv_nil, flt_nil]
  show M.ret (PyData.bool ((intR 1 (ds.length - 1)).all (stepB ds))) = _
  rw [← st]
  rfl
end K01
namespace K01
open PySem PySem.Spec PyProof.Rows L2 Pf
def keysB : D → Bool
  | .tuple ds => ds.all keyB && riseB ds
  | _ => false
theorem keys_hom {ds : List D} (h : ds.all keyB = true) : Homog ds := .inl fun d hd => by
  have := List.all_eq_true.mp h d hd
  cases d <;> first | exact ⟨_, rfl⟩ | (cases this; done)
theorem Fc_7_3 : F_7 3 = m_is_key := by with_unfolding_all rfl
theorem ev_callv1 {F : Nat → List D → M D} {i k : Nat} {e : Sx} {ρ : Ev} {d : D} (hv : gs ρ i = .ret (fnD k)) (h : ev F e ρ = .ret d) : ev F (.callv i (.cons e .nil)) ρ = F k [d] := by
  show ((gs ρ i).bind fun v => (fnOfD v).bind fun k => ((ev F e ρ).bind fun d => (M.ret (PyData.list [])).bind fun x => (lstD x).bind fun ds => M.ret (PyData.list (d :: ds))).bind fun x => (lstD x).bind fun ds => F k ds) = _
  rw [hv, h, b_ret]
  have : fnOfD (fnD k) = .ret k := by
    show need (decide (0 ≤ (k : Int))) (M.ret (k : Int).toNat) = _
    rw [need_of (decide_eq_true (Int.natCast_nonneg k)), Int.toNat_natCast]
  rw [this]
  rfl
theorem s_rising (d : D) (h : Gd d) : m_is_rising [d, fnD 3] = .ret (.bool (keysB d)) := by
  show runD fu 3 F_7 b_is_rising [d, fnD 3] = _
  unfold b_is_rising
  rw [run_ret]
  show ev F_7 (.and _ _) [some (.dat d), some (.dat (fnD 3)), none] = _
  cases d with
  | tuple ds =>
    rw [ev_and (x := true) rfl, if_pos rfl]
    have e : ev F_7 (.lc [2] (.var 2) (.var 0) .none_ (.callv 1 (.cons (.var 2) .nil))) [some (.dat (.tuple ds)), some (.dat (fnD 3)), none] = .ret (.list (ds.map fun d => .bool (keyB d))) := by
      refine lc_map rfl rfl fun d hd => ⟨[some (.dat (.tuple ds)), some (.dat (fnD 3)), some (.dat d)], rfl, rfl, ?_⟩
      rw [ev_callv1 (k := 3) (d := d) rfl rfl, Fc_7_3]
      exact s_key d (h.tup d hd).plain
    have e2 : ev F_7 (.bi .all (.lc [2] (.var 2) (.var 0) .none_ (.callv 1 (.cons (.var 2) .nil)))) [some (.dat (.tuple ds)), some (.dat (fnD 3)), none] = .ret (.bool (ds.all keyB)) := by
      show ((ev F_7 (.lc _ _ _ _ _) _).bind fun d => bi1 .all d) = _
      rw [e, b_ret, b_all, boolsOf_map]
      dsimp only
      rw [all_id]
    rw [ev_and e2]
    show _ = M.ret (PyData.bool (ds.all keyB && riseB ds))
    cases hk : ds.all keyB with
    | false => rfl
    | true =>
      rw [if_pos rfl, ev_call1 (d := .tuple ds) rfl]
      rw [Fc_7_6, s_rises (keys_hom hk) h.len _ (.inl rfl)]
      rfl
  | dict _ => have := h.lay; simp [PyData.canLay0] at this
  | _ => rw [ev_and (x := false) rfl]; rfl
theorem s_keys (d : D) (h : Gd d) : m_is_keys [d] = .ret (.bool (keysB d)) := by
  show runD fu 1 F_8 b_is_keys [d] = _
  unfold b_is_keys
  rw [run_ret]
  show F_8 7 [d, fnD 3] = _
  rw [Fc_8_7]
  exact s_rising d h
theorem s_keyed (d : D) (h : Gd d) : m_law_keyed [d] = .ret (.bool (keysB d)) := by
  show runD fu 2 F_18 b_law_keyed [d] = _
  unfold b_law_keyed
  rw [run_ret]
  show ev F_18 (.and _ _) [some (.dat d), none] = _
  cases d with
  | tuple ds =>
    rw [ev_and (x := true) rfl, if_pos rfl]
    have e : ev F_18 (.lc [1] (.var 1) (.var 0) (.nt (.call 15 (.cons (.var 1) .nil))) (.var 1)) [some (.dat (.tuple ds)), none] = .ret (.list (ds.filter fun d => !keyB d)) := by
      refine lc_flt rfl rfl fun d hd => ⟨[some (.dat (.tuple ds)), some (.dat d)], rfl, ?_, rfl⟩
      show ((ev F_18 (.nt (.call 15 (.cons (.var 1) .nil))) [some (.dat (.tuple ds)), some (.dat d)]).bind truD) = _
      rw [ev_nt (x := keyB d) rfl (by rw [ev_call1 (d := d) rfl, Fc_18_15]; exact s_lkey d (h.tup d hd).plain)]
      rfl
    have sh : SeqAt.shaped (.list (ds.filter fun d => !keyB d)) = true := Gd.shL fun d hd => h.tup d (List.mem_filter.mp hd).1
    have e2 : ev F_18 (.cmp .eq (.lc [1] (.var 1) (.var 0) (.nt (.call 15 (.cons (.var 1) .nil))) (.var 1)) (.lst .nil)) [some (.dat (.tuple ds)), none] = .ret (.bool (ds.all keyB)) := by
      show ((ev F_18 (.lc _ _ _ _ _) _).bind fun x => (M.ret (PyData.list [])).bind fun y => cmp2 .eq x y) = _
      rw [e, b_ret, b_ret, c_eq, k_l, sh, shaped_nil, eqv_nil, flt_nil]
      rfl
    rw [ev_and e2]
    show _ = M.ret (PyData.bool (ds.all keyB && riseB ds))
    cases hk : ds.all keyB with
    | false => rfl
    | true =>
      rw [if_pos rfl, ev_call1 (d := .tuple ds) rfl]
      rw [Fc_18_18, s_lrises (keys_hom hk) h.len _ (.inl rfl)]
      rfl
  | dict _ => have := h.lay; simp [PyData.canLay0] at this
  | _ => rfl
end K01
namespace K01
open PySem PySem.Spec PyProof.Rows L2 Pf
def nonE : D → Bool
  | .tuple [] => false
  | _ => true
def niB (a : D) : D → Bool
  | .tuple ks => !ks.any fun z => PyData.eqv z a
  | _ => false
def boxB : D → Bool
  | .tuple [a, b] => ((keyB a || pageB a) && keysB b) && (nonE b && niB a b)
  | _ => false
theorem box_len {ds : List D} (h : ds.length ≠ 2) : boxB (.tuple ds) = false := by
  unfold boxB
  split
  · rename_i q; cases q; exact absurd rfl h
  · rfl
theorem tst_of {F : Nat → List D → M D} {c : Sx} {ρ : Ev} {x : Bool} (ht : tst c (ev F c) = fun ρ => (ev F c ρ).bind truD) (h : ev F c ρ = .ret (.bool x)) : tst c (ev F c) ρ = .ret x := by
  rw [ht]
  dsimp only
  rw [h]
  rfl
theorem tst_or {F : Nat → List D → M D} {a b : Sx} {ρ : Ev} {x : Bool} (h : ev F (.or a b) ρ = .ret (.bool x)) : tst (.or a b) (ev F (.or a b)) ρ = .ret x := tst_of rfl h
theorem nt_call {F : Nat → List D → M D} {k : Nat} {a : Sx} {ρ : Ev} {x : Bool} (h : ev F (.call k a) ρ = .ret (.bool x)) : ev F (.nt (.call k a)) ρ = .ret (.bool !x) := ev_nt rfl h
theorem nt_isi {F : Nat → List D → M D} {i : Nat} {ρ : Ev} {d : D} (h : gr ρ i = .ret d) (hp : plainD d = true) : ev F (.nt (.isi (.var i) .tup)) ρ = .ret (.bool !isTy .tup d) := ev_nt rfl (by show ((gr ρ i).bind fun d => need (plainD d) (M.ret (PyData.bool (isTy .tup d)))) = _; rw [h, b_ret, hp]; rfl)
theorem ne_len {F : Nat → List D → M D} {ds : List D} {ρ : Ev} {i : Nat} (h : gr ρ i = .ret (.tuple ds)) : ev F (.cmp .ne (.bi .len (.var i)) (.cst (.int 2))) ρ = .ret (.bool (!decide (ds.length = 2))) := by
  show (((gr ρ i).bind fun d => bi1 .len d).bind fun x => (M.ret (PyData.int 2)).bind fun y => cmp2 .ne x y) = _
  rw [h, b_ret, l_tup, b_ret, b_ret, c_ne, eq_len]
  rfl
theorem ne_nil {F : Nat → List D → M D} {e : Sx} {ρ : Ev} {b : D} (hv : rdv e (ev F e) ρ = .ret b) (hb : Gd b) : ev F (.cmp .ne e (.tup .nil)) ρ = .ret (.bool (nonE b)) ∧ ev F (.cmp .eq e (.tup .nil)) ρ = .ret (.bool (!nonE b)) := by
  have e1 : PyData.eqv b (.tuple []) = !nonE b := by
    cases b with
    | tuple ds => cases ds <;> simp [PyData.eqv, PyData.eqvAll, nonE]
    | _ => simp [PyData.eqv, nonE]
  have st : SeqAt.shaped (.tuple []) = true := by decide
  constructor
  · show ((rdv e (ev F e) ρ).bind fun x => (M.ret (PyData.tuple [])).bind fun y => cmp2 .ne x y) = _
    rw [hv, b_ret, b_ret, c_ne, k_rt, hb.sh, st, e1]
    simp
  · show ((rdv e (ev F e) ρ).bind fun x => (M.ret (PyData.tuple [])).bind fun y => cmp2 .eq x y) = _
    rw [hv, b_ret, b_ret, c_eq, k_rt, hb.sh, st, e1]
    rfl
theorem keys_tup {b : D} (h : keysB b = true) : ∃ ks, b = .tuple ks ∧ ks.all keyB = true := by
  cases b <;> first | (cases h; done) | skip
  rename_i ks
  exact ⟨ks, rfl, (Bool.and_eq_true_iff.mp h).1⟩
theorem s_box (d : D) (h : Gd d) : m_is_box [d] = .ret (.bool (boxB d)) := by
  show runD fu 1 F_9 b_is_box [d] = _
  unfold b_is_box
  cases d with
  | tuple ds =>
    by_cases hl : ds.length = 2
    · obtain ⟨a, b, rfl⟩ := len2 hl
      have ha := h.tup a (by simp)
      have hb := h.tup b (by simp)
      have e1 := ne_len (F := F_9) (ds := [a, b]) (ρ := [some (.dat (.tuple [a, b]))]) (i := 0) rfl
      have e2 : ev F_9 (.nt (.call 5 (.cons (.idx (.var 0) (.cst (.int 0))) .nil))) [some (.dat (.tuple [a, b]))] = .ret (.bool !(keyB a || pageB a)) := nt_call (by rw [ev_call1 (d := a) rfl, Fc_9_5]; exact s_thing a ha)
      have e3 : ev F_9 (.nt (.call 8 (.cons (.idx (.var 0) (.cst (.int 1))) .nil))) [some (.dat (.tuple [a, b]))] = .ret (.bool !keysB b) := nt_call (by rw [ev_call1 (d := b) rfl, Fc_9_8]; exact s_keys b hb)
      have c : ev F_9 (.or (.nt (.isi (.var 0) .tup)) (.or (.cmp .ne (.bi .len (.var 0)) (.cst (.int 2))) (.or (.nt (.call 5 (.cons (.idx (.var 0) (.cst (.int 0))) .nil))) (.nt (.call 8 (.cons (.idx (.var 0) (.cst (.int 1))) .nil)))))) [some (.dat (.tuple [a, b]))] = .ret (.bool (!((keyB a || pageB a) && keysB b))) := by
        rw [ev_or (nt_isi (d := .tuple _) rfl rfl), if_neg (by simp [isTy]), ev_or e1]
        rw [if_neg (by simp), ev_or e2, e3]
        cases (keyB a || pageB a) <;> rfl
      rw [run_if (tst_or c)]
      show _ = M.ret (PyData.bool (((keyB a || pageB a) && keysB b) && (nonE b && niB a b)))
      cases hc : ((keyB a || pageB a) && keysB b) with
      | false => rfl
      | true =>
        rw [if_neg (by simp), run_ret]
        obtain ⟨ks, rfl, _⟩ := keys_tup (Bool.and_eq_true_iff.mp hc).2
        show ev F_9 (.and _ _) [some (.dat (.tuple [a, .tuple ks]))] = _
        rw [ev_and (ne_nil (b := .tuple ks) rfl hb).1]
        have e4 : ev F_9 (.cmp .notin (.idx (.var 0) (.cst (.int 0))) (.idx (.var 0) (.cst (.int 1)))) [some (.dat (.tuple [a, .tuple ks]))] = .ret (.bool (niB a (.tuple ks))) := by
          show cmp2 .notin a (.tuple ks) = _
          rw [c_niT, ha.sh, hb.sh]
          rfl
        rw [e4]
        cases nonE (.tuple ks) <;> rfl
    · rw [box_len hl]
      have e1 := ne_len (F := F_9) (ds := ds) (ρ := [some (.dat (.tuple ds))]) (i := 0) rfl
      rw [decide_eq_false hl] at e1
      rw [run_if (x := true) (tst_or (by rw [ev_or (nt_isi (d := .tuple _) rfl rfl), if_neg (by simp [isTy])]; exact (ev_or e1).trans rfl))]
      rfl
  | dict _ => have := h.lay; simp [PyData.canLay0] at this
  | _ =>
    rw [run_if (x := true) (tst_or ((ev_or (nt_isi rfl rfl)).trans rfl))]
    rfl
theorem ni_page {a : D} {ks : List D} (h : ks.all keyB = true) (p : pageB a = true) : niB a (.tuple ks) = true := by
  show (!ks.any fun z => PyData.eqv z a) = true
  rw [Bool.not_eq_true', List.any_eq_false]
  intro z hz
  have := List.all_eq_true.mp h z hz
  cases a <;> first | (cases p; done) | skip
  cases z <;> first | (cases this; done) | (simp [PyData.eqv]; done)
theorem s_boxed (d : D) (h : Gd d) : m_law_boxed [d] = .ret (.bool (boxB d)) := by
  show runD fu 1 F_19 b_law_boxed [d] = _
  unfold b_law_boxed
  cases d with
  | tuple ds =>
    by_cases hl : ds.length = 2
    · obtain ⟨a, b, rfl⟩ := len2 hl
      have ha := h.tup a (by simp)
      have hb := h.tup b (by simp)
      have e1 := ne_len (F := F_19) (ds := [a, b]) (ρ := [some (.dat (.tuple [a, b]))]) (i := 0) rfl
      have e2 : ev F_19 (.nt (.call 19 (.cons (.idx (.var 0) (.cst (.int 1))) .nil))) [some (.dat (.tuple [a, b]))] = .ret (.bool !keysB b) := nt_call (by rw [ev_call1 (d := b) rfl, Fc_19_19]; exact s_keyed b hb)
      have e3 := (ne_nil (F := F_19) (e := .idx (.var 0) (.cst (.int 1))) (ρ := [some (.dat (.tuple [a, b]))]) (b := b) rfl hb).2
      have c : ev F_19 (.or (.nt (.isi (.var 0) .tup)) (.or (.cmp .ne (.bi .len (.var 0)) (.cst (.int 2))) (.or (.nt (.call 19 (.cons (.idx (.var 0) (.cst (.int 1))) .nil))) (.cmp .eq (.idx (.var 0) (.cst (.int 1))) (.tup .nil))))) [some (.dat (.tuple [a, b]))] = .ret (.bool (!(keysB b && nonE b))) := by
        rw [ev_or (nt_isi (d := .tuple _) rfl rfl), if_neg (by simp [isTy]), ev_or e1]
        rw [if_neg (by simp), ev_or e2, e3]
        cases keysB b <;> rfl
      rw [run_if (tst_or c)]
      show _ = M.ret (PyData.bool (((keyB a || pageB a) && keysB b) && (nonE b && niB a b)))
      cases hc : (keysB b && nonE b) with
      | false =>
        show M.ret (PyData.bool false) = _
        congr 2
        revert hc
        cases keysB b <;> cases nonE b <;> simp
      | true =>
        obtain ⟨k1, k2⟩ := Bool.and_eq_true_iff.mp hc
        rw [if_neg (by simp), run_ret, k1, k2]
        obtain ⟨ks, rfl, hk⟩ := keys_tup k1
        show ev F_19 (.or _ _) [some (.dat (.tuple [a, .tuple ks]))] = _
        have e5 : ev F_19 (.call 17 (.cons (.idx (.var 0) (.cst (.int 0))) .nil)) [some (.dat (.tuple [a, .tuple ks]))] = .ret (.bool (pageB a)) := by rw [ev_call1 (d := a) rfl, Fc_19_17]; exact s_lpage a ha
        have e6 : ev F_19 (.call 15 (.cons (.idx (.var 0) (.cst (.int 0))) .nil)) [some (.dat (.tuple [a, .tuple ks]))] = .ret (.bool (keyB a)) := by rw [ev_call1 (d := a) rfl, Fc_19_15]; exact s_lkey a ha.plain
        have e4 : ev F_19 (.cmp .notin (.idx (.var 0) (.cst (.int 0))) (.idx (.var 0) (.cst (.int 1)))) [some (.dat (.tuple [a, .tuple ks]))] = .ret (.bool (niB a (.tuple ks))) := by
          show cmp2 .notin a (.tuple ks) = _
          rw [c_niT, ha.sh, hb.sh]
          rfl
        rw [ev_or e5, ev_and e6, e4]
        cases hp : pageB a with
        | true => rw [ni_page hk hp]; simp
        | false => cases keyB a <;> simp
    · rw [box_len hl]
      have e1 := ne_len (F := F_19) (ds := ds) (ρ := [some (.dat (.tuple ds))]) (i := 0) rfl
      rw [decide_eq_false hl] at e1
      rw [run_if (x := true) (tst_or (by rw [ev_or (nt_isi (d := .tuple _) rfl rfl), if_neg (by simp [isTy])]; exact (ev_or e1).trans rfl))]
      rfl
  | dict _ => have := h.lay; simp [PyData.canLay0] at this
  | _ =>
    rw [run_if (x := true) (tst_or ((ev_or (nt_isi rfl rfl)).trans rfl))]
    rfl
end K01
namespace K01
open PySem PySem.Spec PyProof.Rows L2 Pf
def boxesB : D → Bool
  | .tuple ds => ds.all boxB
  | _ => false
theorem ev_isi {F : Nat → List D → M D} {i : Nat} {ρ : Ev} {d : D} (h : gr ρ i = .ret d) (hp : plainD d = true) : ev F (.isi (.var i) .tup) ρ = .ret (.bool (isTy .tup d)) := by
  show ((gr ρ i).bind fun d => need (plainD d) (M.ret (PyData.bool (isTy .tup d)))) = _
  rw [h, b_ret, hp]
  rfl
theorem ev_all {F : Nat → List D → M D} {own : List Nat} {tg it cd elt : Sx} {ρ : Ev} {ds : List D} {p : D → Bool} (h : ev F (.lc own tg it cd elt) ρ = .ret (.list (ds.map fun d => .bool (p d)))) : ev F (.bi .all (.lc own tg it cd elt)) ρ = .ret (.bool (ds.all p)) := by
  show ((ev F (.lc own tg it cd elt) ρ).bind fun d => bi1 .all d) = _
  rw [h, b_ret, b_all, boolsOf_map]
  dsimp only
  rw [all_id]
theorem ev_none {F : Nat → List D → M D} {own : List Nat} {tg it cd elt : Sx} {ρ : Ev} {ds : List D} {p : D → Bool} (hg : ∀ d ∈ ds, Gd d) (h : ev F (.lc own tg it cd elt) ρ = .ret (.list (ds.filter fun d => !p d))) : ev F (.cmp .eq (.lc own tg it cd elt) (.lst .nil)) ρ = .ret (.bool (ds.all p)) := by
  show ((ev F (.lc own tg it cd elt) ρ).bind fun x => (M.ret (PyData.list [])).bind fun y => cmp2 .eq x y) = _
  have sh : SeqAt.shaped (.list (ds.filter fun d => !p d)) = true := Gd.shL fun d hd => hg d (List.mem_filter.mp hd).1
  rw [h, b_ret, b_ret, c_eq, k_l, sh, shaped_nil, eqv_nil, flt_nil]
  rfl
theorem s_boxes (d : D) (h : Gd d) : m_is_boxes [d] = .ret (.bool (boxesB d)) := by
  show runD fu 2 F_10 b_is_boxes [d] = _
  unfold b_is_boxes
  rw [run_ret]
  show ev F_10 (.and _ _) [some (.dat d), none] = _
  rw [ev_and (ev_isi (d := d) rfl h.plain)]
  cases d with
  | tuple ds =>
    show ev F_10 (.bi .all _) _ = _
    exact ev_all (lc_map rfl rfl fun d hd => ⟨[some (.dat (.tuple ds)), some (.dat d)], rfl, rfl, by rw [ev_call1 (d := d) rfl, Fc_10_9]; exact s_box d (h.tup d hd)⟩)
  | dict _ => have := h.lay; simp [PyData.canLay0] at this
  | _ => rfl
def notW (a : D) : Bool := !PyData.eqv a (.str "world")
def handB : D → Bool
  | .tuple [a, b] => nameB a && (notW a && keysB b)
  | _ => false
def handW : D → Bool
  | .tuple [a, b] => nameB a && keysB b
  | _ => false
theorem hand_len {ds : List D} (h : ds.length ≠ 2) : handB (.tuple ds) = false ∧ handW (.tuple ds) = false := by
  unfold handB handW
  constructor
  · split
    · rename_i q; cases q; exact absurd rfl h
    · rfl
  · split
    · rename_i q; cases q; exact absurd rfl h
    · rfl
theorem sh_w : SeqAt.shaped (.str "world") = true := by decide +kernel
theorem s_hand (d : D) (h : Gd d) : m_is_hand [d] = .ret (.bool (handB d)) := by
  show runD fu 1 F_11 b_is_hand [d] = _
  unfold b_is_hand
  cases d with
  | tuple ds =>
    by_cases hl : ds.length = 2
    · obtain ⟨a, b, rfl⟩ := len2 hl
      have ha := h.tup a (by simp)
      have hb := h.tup b (by simp)
      have e1 := ne_len (F := F_11) (ds := [a, b]) (ρ := [some (.dat (.tuple [a, b]))]) (i := 0) rfl
      have e2 : ev F_11 (.nt (.call 2 (.cons (.idx (.var 0) (.cst (.int 0))) .nil))) [some (.dat (.tuple [a, b]))] = .ret (.bool !nameB a) := nt_call (by rw [ev_call1 (d := a) rfl, Fc_11_2]; exact s_name a ha)
      have c : ev F_11 (.or (.nt (.isi (.var 0) .tup)) (.or (.cmp .ne (.bi .len (.var 0)) (.cst (.int 2))) (.nt (.call 2 (.cons (.idx (.var 0) (.cst (.int 0))) .nil))))) [some (.dat (.tuple [a, b]))] = .ret (.bool (!nameB a)) := by
        rw [ev_or (nt_isi (d := .tuple _) rfl rfl), if_neg (by simp [isTy]), ev_or e1]
        rw [if_neg (by simp), e2]
      rw [run_if (tst_or c)]
      show _ = M.ret (PyData.bool (nameB a && (notW a && keysB b)))
      cases hc : nameB a with
      | false => rfl
      | true =>
        rw [if_neg (by simp), run_ret]
        show ev F_11 (.and _ _) [some (.dat (.tuple [a, b]))] = _
        have e3 : ev F_11 (.cmp .ne (.idx (.var 0) (.cst (.int 0))) (.glob "WORLD" (.str "world"))) [some (.dat (.tuple [a, b]))] = .ret (.bool (notW a)) := by
          show cmp2 .ne a (.str "world") = _
          rw [c_ne, k_sh ha.sh sh_w]
          rfl
        rw [ev_and e3, ev_call1 (d := b) rfl, Fc_11_8, s_keys b hb]
        cases notW a <;> rfl
    · rw [(hand_len hl).1]
      have e1 := ne_len (F := F_11) (ds := ds) (ρ := [some (.dat (.tuple ds))]) (i := 0) rfl
      rw [decide_eq_false hl] at e1
      rw [run_if (x := true) (tst_or (by rw [ev_or (nt_isi (d := .tuple _) rfl rfl), if_neg (by simp [isTy])]; exact (ev_or e1).trans rfl))]
      rfl
  | dict _ => have := h.lay; simp [PyData.canLay0] at this
  | _ =>
    rw [run_if (x := true) (tst_or ((ev_or (nt_isi rfl rfl)).trans rfl))]
    rfl
def fstD : D → D
  | .tuple [a, _] => a
  | _ => .none
def shelfB : D → Bool
  | .tuple [.tuple hs, b] => hs.all handB && riseB (hs.map fstD) && boxesB b
  | _ => false
theorem hand_fst {d : D} (h : handW d = true) : ∃ a b, d = .tuple [a, b] ∧ nameB a = true ∧ keysB b = true := by
  unfold handW at h
  split at h
  · exact ⟨_, _, rfl, Bool.and_eq_true_iff.mp h⟩
  · cases h
theorem handB_eq (d : D) : handB d = (handW d && notW (fstD d)) := by
  unfold handB handW fstD
  split
  · cases nameB _ <;> cases notW _ <;> cases keysB _ <;> rfl
  · rfl
theorem names_hom {hs : List D} (h : hs.all handW = true) : Homog (hs.map fstD) := .inr fun d hd => by
  obtain ⟨x, hx, rfl⟩ := List.mem_map.mp hd
  obtain ⟨a, b, rfl, hn, _⟩ := hand_fst (List.all_eq_true.mp h x hx)
  show ∃ s, a = .str s
  cases a <;> first | exact ⟨_, rfl⟩ | (cases hn; done)
theorem all_hand (hs : List D) : hs.all handB = (hs.all handW && (hs.map fstD).all notW) := by
  induction hs with
  | nil => rfl
  | cons x r ih =>
    rw [List.all_cons, List.all_cons, List.map_cons, List.all_cons, ih, handB_eq]
    cases handW x <;> cases notW (fstD x) <;> cases r.all handW <;> simp
theorem nt_all {F : Nat → List D → M D} {e : Sx} {ρ : Ev} {x : Bool} (h : ev F (.bi .all e) ρ = .ret (.bool x)) : ev F (.nt (.bi .all e)) ρ = .ret (.bool !x) := ev_nt rfl h
theorem isi_ix {F : Nat → List D → M D} {i : Nat} {k : Int} {ρ : Ev} {d : D} (h : ev F (.idx (.var i) (.cst (.int k))) ρ = .ret d) (hp : plainD d = true) : ev F (.nt (.isi (.idx (.var i) (.cst (.int k))) .tup)) ρ = .ret (.bool !isTy .tup d) := ev_nt rfl (by
  show ((ev F (.idx (.var i) (.cst (.int k))) ρ).bind fun d => need (plainD d) (M.ret (PyData.bool (isTy .tup d)))) = _
  rw [h, b_ret, hp]
  rfl)
theorem shelf_no {a b : D} (h : isTy .tup a = false) : shelfB (.tuple [a, b]) = false := by
  cases a <;> first | rfl | (cases h; done)
theorem shelf_len {ds : List D} (h : ds.length ≠ 2) : shelfB (.tuple ds) = false := by
  unfold shelfB
  split
  · rename_i q; cases q; exact absurd rfl h
  · rfl
theorem handB_W {hs : List D} (h : hs.all handB = true) : hs.all handW = true := by
  rw [all_hand] at h
  exact (Bool.and_eq_true_iff.mp h).1
theorem s_shelf (d : D) (h : Gd d) : m_is_shelf [d] = .ret (.bool (shelfB d)) := by
  show runD fu 2 F_12 b_is_shelf [d] = _
  unfold b_is_shelf
  cases d with
  | tuple ds =>
    by_cases hl : ds.length = 2
    · obtain ⟨a, b, rfl⟩ := len2 hl
      have ha := h.tup a (by simp)
      have hb := h.tup b (by simp)
      have e1 := ne_len (F := F_12) (ds := [a, b]) (ρ := [some (.dat (.tuple [a, b])), none]) (i := 0) rfl
      have e2 := isi_ix (F := F_12) (i := 0) (k := 0) (ρ := [some (.dat (.tuple [a, b])), none]) (d := a) rfl ha.plain
      have c : ev F_12 (.or (.nt (.isi (.var 0) .tup)) (.or (.cmp .ne (.bi .len (.var 0)) (.cst (.int 2))) (.nt (.isi (.idx (.var 0) (.cst (.int 0))) .tup)))) [some (.dat (.tuple [a, b])), none] = .ret (.bool (!isTy .tup a)) := by
        rw [ev_or (nt_isi (d := .tuple _) rfl rfl), if_neg (by simp [isTy]), ev_or e1]
        rw [if_neg (by simp), e2]
      rw [run_if (tst_or c)]
      cases ht : isTy .tup a with
      | false => rw [shelf_no ht]; rfl
      | true =>
        rw [if_neg (by simp)]
        cases a <;> first | (cases ht; done) | skip
        rename_i hs
        show _ = M.ret (PyData.bool (hs.all handB && riseB (hs.map fstD) && boxesB b))
        have f1 := nt_all (F := F_12) (ev_all (p := handB) (ds := hs) (own := [1]) (tg := .var 1) (it := .idx (.var 0) (.cst (.int 0))) (cd := .none_) (elt := .call 11 (.cons (.var 1) .nil)) (ρ := [some (.dat (.tuple [.tuple hs, b])), none]) (lc_map rfl rfl fun d hd => ⟨[some (.dat (.tuple [.tuple hs, b])), some (.dat d)], rfl, rfl, by rw [ev_call1 (d := d) rfl, Fc_12_11]; exact s_hand d (ha.tup d hd)⟩))
        cases hk : hs.all handB with
        | false =>
          rw [hk] at f1
          rw [run_if (x := true) (tst_or ((ev_or f1).trans rfl))]
          rfl
        | true =>
          rw [hk] at f1
          have hw := handB_W hk
          have f2 : ev F_12 (.lc [1] (.var 1) (.idx (.var 0) (.cst (.int 0))) .none_ (.idx (.var 1) (.cst (.int 0)))) [some (.dat (.tuple [.tuple hs, b])), none] = .ret (.list (hs.map fstD)) := lc_map rfl rfl fun d hd => ⟨[some (.dat (.tuple [.tuple hs, b])), some (.dat d)], rfl, rfl, by
            obtain ⟨x, y, rfl, _⟩ := hand_fst (List.all_eq_true.mp hw d hd)
            rfl⟩
          have f3 : ev F_12 (.nt (.call 6 (.cons (.lc [1] (.var 1) (.idx (.var 0) (.cst (.int 0))) .none_ (.idx (.var 1) (.cst (.int 0)))) .nil))) [some (.dat (.tuple [.tuple hs, b])), none] = .ret (.bool !riseB (hs.map fstD)) := nt_call (by
            rw [ev_call1 f2, Fc_12_6, s_rises (names_hom hw) (by rw [List.length_map]; exact ha.len) _ (.inr rfl)])
          have c2 := ev_or (b := .nt (.call 6 (.cons (.lc [1] (.var 1) (.idx (.var 0) (.cst (.int 0))) .none_ (.idx (.var 1) (.cst (.int 0)))) .nil))) f1
          rw [if_neg (by simp), f3] at c2
          rw [run_if (tst_or c2)]
          cases riseB (hs.map fstD) with
          | false => rfl
          | true =>
            rw [if_neg (by simp), run_ret]
            show ev F_12 (.call 10 _) [some (.dat (.tuple [.tuple hs, b])), none] = _
            rw [ev_call1 (d := b) rfl, Fc_12_10, s_boxes b hb]
            rfl
    · rw [shelf_len hl]
      have e1 := ne_len (F := F_12) (ds := ds) (ρ := [some (.dat (.tuple ds)), none]) (i := 0) rfl
      rw [decide_eq_false hl] at e1
      rw [run_if (x := true) (tst_or (by rw [ev_or (nt_isi (d := .tuple _) rfl rfl), if_neg (by simp [isTy])]; exact (ev_or e1).trans rfl))]
      rfl
  | dict _ => have := h.lay; simp [PyData.canLay0] at this
  | _ =>
    rw [run_if (x := true) (tst_or ((ev_or (nt_isi rfl rfl)).trans rfl))]
    rfl
end K01
namespace K01
open PySem PySem.Spec PyProof.Rows L2 Pf
abbrev hc : Sx := .or (.nt (.isi (.var 1) .tup)) (.or (.cmp .ne (.bi .len (.var 1)) (.cst (.int 2))) (.or (.nt (.call 16 (.cons (.idx (.var 1) (.cst (.int 0))) .nil))) (.nt (.call 19 (.cons (.idx (.var 1) (.cst (.int 1))) .nil)))))
theorem ev_hc (d0 x : D) (h : Gd x) : ev F_24 hc [some (.dat d0), some (.dat x), none] = .ret (.bool !handW x) := by
  rw [ev_or (nt_isi (d := x) rfl h.plain)]
  cases x with
  | tuple ds =>
    show ev F_24 (.or _ _) _ = _
    have e1 := ne_len (F := F_24) (ds := ds) (ρ := [some (.dat d0), some (.dat (.tuple ds)), none]) (i := 1) rfl
    rw [ev_or e1]
    by_cases hl : ds.length = 2
    · obtain ⟨a, b, rfl⟩ := len2 hl
      have ha := h.tup a (by simp)
      have hb := h.tup b (by simp)
      have e2 : ev F_24 (.nt (.call 16 (.cons (.idx (.var 1) (.cst (.int 0))) .nil))) [some (.dat d0), some (.dat (.tuple [a, b])), none] = .ret (.bool !nameB a) := nt_call (by rw [ev_call1 (d := a) rfl, Fc_24_16]; exact s_lname a ha)
      have e3 : ev F_24 (.nt (.call 19 (.cons (.idx (.var 1) (.cst (.int 1))) .nil))) [some (.dat d0), some (.dat (.tuple [a, b])), none] = .ret (.bool !keysB b) := nt_call (by rw [ev_call1 (d := b) rfl, Fc_24_19]; exact s_keyed b hb)
      rw [if_neg (by simp), ev_or e2, e3]
      show _ = M.ret (PyData.bool !(nameB a && keysB b))
      cases nameB a <;> rfl
    · rw [(hand_len hl).2, decide_eq_false hl]
      rfl
  | dict _ => have := h.lay; simp [PyData.canLay0] at this
  | _ => rfl
abbrev hbody : Sx := .cons (.iff hc (.cons (.ret (.cst (.bool false))) .nil) .nil) .nil
theorem for_hands (d0 : D) : ∀ (ds : List D), (∀ d ∈ ds, Gd d) → ∀ o : Option D, ∃ o' : Option D, forGo (tgt (.var 1)) (exGo fu F_24 hbody) ds [some (.dat d0), o.map SV.dat, none] = if ds.all handW = true then .ret (.nx [some (.dat d0), o'.map SV.dat, none]) else .ret (.rt (.bool false))
  | [], _, o => ⟨o, rfl⟩
  | x :: r, h, o => by
    obtain ⟨o', ih⟩ := for_hands d0 r (fun d hd => h d (List.mem_cons_of_mem _ hd)) (some x)
    refine ⟨o', ?_⟩
    have e1 : tgt (.var 1) x [some (.dat d0), o.map SV.dat, none] = .ret [some (.dat d0), some (.dat x), none] := by cases o <;> rfl
    have e2 : exGo fu F_24 hbody [some (.dat d0), some (.dat x), none] = if handW x = true then .ret (.nx [some (.dat d0), some (.dat x), none]) else .ret (.rt (.bool false)) := by
      show (((tst hc (ev F_24 hc) [some (.dat d0), some (.dat x), none]).bind fun k => if k = true then exGo fu F_24 (.cons (.ret (.cst (.bool false))) .nil) [some (.dat d0), some (.dat x), none] else exGo fu F_24 .nil [some (.dat d0), some (.dat x), none]).bind _) = _
      rw [tst_or (ev_hc d0 x (h x List.mem_cons_self))]
      cases handW x <;> rfl
    unfold forGo
    rw [e1, b_ret, e2, List.all_cons]
    cases handW x with
    | false => rfl
    | true => exact ih
theorem s_shelved (d : D) (h : Gd d) : m_law_shelved [d] = .ret (.bool (shelfB d)) := by
  show runD fu 3 F_24 b_law_shelved [d] = _
  unfold b_law_shelved
  cases d with
  | tuple ds =>
    have e1 := ne_len (F := F_24) (ds := ds) (ρ := [some (.dat (.tuple ds)), none, none]) (i := 0) rfl
    have c : ev F_24 (.or (.nt (.isi (.var 0) .tup)) (.cmp .ne (.bi .len (.var 0)) (.cst (.int 2)))) [some (.dat (.tuple ds)), none, none] = .ret (.bool !decide (ds.length = 2)) := by
      rw [ev_or (nt_isi (d := .tuple _) rfl rfl), if_neg (by simp [isTy]), e1]
    rw [run_if (tst_or c)]
    by_cases hl : ds.length = 2
    · obtain ⟨a, b, rfl⟩ := len2 hl
      have ha := h.tup a (by simp)
      have hb := h.tup b (by simp)
      rw [if_neg (by simp)]
      have i1 := isi_ix (F := F_24) (i := 0) (k := 0) (ρ := [some (.dat (.tuple [a, b])), none, none]) (d := a) rfl ha.plain
      have i2 := isi_ix (F := F_24) (i := 0) (k := 1) (ρ := [some (.dat (.tuple [a, b])), none, none]) (d := b) rfl hb.plain
      have c2 := ev_or (b := .nt (.isi (.idx (.var 0) (.cst (.int 1))) .tup)) i1
      rw [i2] at c2
      cases ht : isTy .tup a with
      | false =>
        rw [ht] at c2
        rw [run_if (x := true) (tst_or c2), shelf_no ht]
        rfl
      | true =>
        rw [ht, if_neg (by simp)] at c2
        rw [run_if (tst_or c2)]
        cases a <;> first | (cases ht; done) | skip
        rename_i hs
        show _ = M.ret (PyData.bool (hs.all handB && riseB (hs.map fstD) && boxesB b))
        cases hu : isTy .tup b with
        | false =>
          have : boxesB b = false := by cases b <;> first | rfl | (cases hu; done)
          rw [this, Bool.and_false]
          rfl
        | true =>
          rw [if_neg (by simp)]
          cases b <;> first | (cases hu; done) | skip
          rename_i bs
          obtain ⟨o', fh⟩ := for_hands (.tuple [.tuple hs, .tuple bs]) hs (fun d hd => ha.tup d hd) none
          unfold runD
          show ((((forGo (tgt (.var 1)) (exGo fu F_24 hbody) hs [some (.dat (.tuple [.tuple hs, .tuple bs])), (none : Option D).map SV.dat, none]).bind _).bind _)) = _
          rw [fh, all_hand]
          cases hw : hs.all handW with
          | false => rfl
          | true =>
            rw [if_pos rfl, b_ret]
            have ow : datOnly [some (SV.dat (.tuple [.tuple hs, .tuple bs])), o'.map SV.dat, none] [1] = true := by cases o' <;> rfl
            have f2 : ev F_24 (.lc [1] (.var 1) (.idx (.var 0) (.cst (.int 0))) .none_ (.idx (.var 1) (.cst (.int 0)))) [some (.dat (.tuple [.tuple hs, .tuple bs])), o'.map SV.dat, none] = .ret (.list (hs.map fstD)) := lc_map rfl ow fun d hd => ⟨[some (.dat (.tuple [.tuple hs, .tuple bs])), some (.dat d), none], rfl, rfl, by
              obtain ⟨x, y, rfl, _⟩ := hand_fst (List.all_eq_true.mp hw d hd)
              rfl⟩
            show ((((ev F_24 (.lc _ _ _ _ _) _).bind fun d => (tgt (.var 2) d _).bind fun ρ1 => M.ret (Out.nx ρ1)).bind _).bind _) = _
            rw [f2]
            have ow2 : datOnly [some (SV.dat (.tuple [.tuple hs, .tuple bs])), o'.map SV.dat, some (.dat (.list (hs.map fstD)))] [1] = true := by cases o' <;> rfl
            have g1 : ev F_24 (.call 18 (.cons (.var 2) .nil)) [some (.dat (.tuple [.tuple hs, .tuple bs])), o'.map SV.dat, some (.dat (.list (hs.map fstD)))] = .ret (.bool (riseB (hs.map fstD))) := by
              rw [ev_call1 (d := .list (hs.map fstD)) rfl, Fc_24_18]
              exact s_lrises (names_hom hw) (by rw [List.length_map]; exact ha.len) _ (.inr rfl)
            have gn : ∀ d ∈ hs.map fstD, Gd d := fun d hd => by
              obtain ⟨z, hz, rfl⟩ := List.mem_map.mp hd
              obtain ⟨x, y, rfl, _⟩ := hand_fst (List.all_eq_true.mp hw z hz)
              exact (ha.tup _ hz).tup x (by simp)
            have g2 : ev F_24 (.cmp .notin (.cst (.str "world")) (.var 2)) [some (.dat (.tuple [.tuple hs, .tuple bs])), o'.map SV.dat, some (.dat (.list (hs.map fstD)))] = .ret (.bool ((hs.map fstD).all notW)) := by
              show cmp2 .notin (.str "world") (.list (hs.map fstD)) = _
              rw [c_niL, sh_w, Gd.shL gn]
              show M.ret (PyData.bool (!(hs.map fstD).any fun z => PyData.eqv z (.str "world"))) = _
              rw [List.not_any_eq_all_not]
              rfl
            have g3 : ev F_24 (.cmp .eq (.lc [1] (.var 1) (.idx (.var 0) (.cst (.int 1))) (.nt (.call 20 (.cons (.var 1) .nil))) (.var 1)) (.lst .nil)) [some (.dat (.tuple [.tuple hs, .tuple bs])), o'.map SV.dat, some (.dat (.list (hs.map fstD)))] = .ret (.bool (bs.all boxB)) :=
              ev_none (fun d hd => hb.tup d hd) (lc_flt rfl ow2 fun d hd => ⟨[some (.dat (.tuple [.tuple hs, .tuple bs])), some (.dat d), some (.dat (.list (hs.map fstD)))], rfl, tst_of rfl (nt_call (by rw [ev_call1 (d := d) rfl, Fc_24_20]; exact s_boxed d (hb.tup d hd))), rfl⟩)
            have g4 : ev F_24 (.and (.call 18 (.cons (.var 2) .nil)) (.and (.cmp .notin (.cst (.str "world")) (.var 2)) (.cmp .eq (.lc [1] (.var 1) (.idx (.var 0) (.cst (.int 1))) (.nt (.call 20 (.cons (.var 1) .nil))) (.var 1)) (.lst .nil)))) [some (.dat (.tuple [.tuple hs, .tuple bs])), o'.map SV.dat, some (.dat (.list (hs.map fstD)))] = .ret (.bool (true && (hs.map fstD).all notW && riseB (hs.map fstD) && boxesB (.tuple bs))) := by
              rw [ev_and g1, ev_and g2, g3]
              show _ = M.ret (PyData.bool (true && (hs.map fstD).all notW && riseB (hs.map fstD) && bs.all boxB))
              cases riseB (hs.map fstD) <;> cases (hs.map fstD).all notW <;> rfl
            have pt : tgt (.var 2) (.list (hs.map fstD)) [some (.dat (.tuple [.tuple hs, .tuple bs])), o'.map SV.dat, none] = .ret [some (.dat (.tuple [.tuple hs, .tuple bs])), o'.map SV.dat, some (.dat (.list (hs.map fstD)))] := by cases o' <;> rfl
            rw [b_ret, pt, b_ret, b_ret]
            show ((((ev F_24 (.and _ _) _).bind fun d => M.ret (Out.rt d)).bind _).bind _) = _
            rw [g4]
            rfl
    · rw [shelf_len hl, decide_eq_false hl]
      rfl
  | dict _ => have := h.lay; simp [PyData.canLay0] at this
  | _ =>
    rw [run_if (x := true) (tst_or ((ev_or (nt_isi rfl rfl)).trans rfl))]
    rfl
end K01
namespace K01
open PySem PySem.Spec PyProof.Rows L2 Pf
def repOk (d : D) : Prop := (d.showable && SeqAt.shaped d && decide (d.shown.length ≤ sizeLine)) = true
def bl8 (a b c d e f g h : Bool) : D := .list [.bool a, .bool b, .bool c, .bool d, .bool e, .bool f, .bool g, .bool h]
theorem rep8 (a b c d e f g h : Bool) : repOk (bl8 a b c d e f g h) := by
  unfold repOk bl8
  have h1 : (PyData.list [.bool a, .bool b, .bool c, .bool d, .bool e, .bool f, .bool g, .bool h]).showable = true := by simp [PyData.showable, PyData.showableAll]
  have h2 : SeqAt.shaped (PyData.list [.bool a, .bool b, .bool c, .bool d, .bool e, .bool f, .bool g, .bool h]) = true := by simp [SeqAt.shaped, PyData.canLay0, PyData.canLayAll0, PyData.depth, PyData.depthAll]
  have h3 := PyData.shown_le 13 (by decide) (PyData.list [.bool a, .bool b, .bool c, .bool d, .bool e, .bool f, .bool g, .bool h]) (by simp [PyData.leavesShort, PyData.leavesShortAll])
  have h4 : (PyData.list [.bool a, .bool b, .bool c, .bool d, .bool e, .bool f, .bool g, .bool h]).weight ≤ 100 := by simp [PyData.weight, PyData.weightAll]
  rw [h1, h2, decide_eq_true (by rw [sizeLine_eq]; omega)]
  rfl
theorem rep_ret {d : D} (h : repOk d) : bi1 .repr d = .ret (.str d.shown) ∧ cmp2 .eq (.str d.shown) (.str d.shown) = .ret (.bool true) ∧ cmp2 .ne (.str d.shown) (.str d.shown) = .ret (.bool false) := by
  have es : PyData.eqv (.str d.shown) (.str d.shown) = true := by simp [PyData.eqv]
  refine ⟨?_, ?_, ?_⟩
  · rw [b_repr, show _ = true from h]; rfl
  · rw [c_eq, es]; rfl
  · rw [c_ne, es]; rfl
theorem args_cons {F : Nat → List D → M D} {e a : Sx} {ρ : Ev} {d : D} {ds : List D} (h1 : ev F e ρ = .ret d) (h2 : ev F a ρ = .ret (.list ds)) : ev F (.cons e a) ρ = .ret (.list (d :: ds)) := by
  show ((ev F e ρ).bind fun d => (ev F a ρ).bind fun x => (lstD x).bind fun ds => M.ret (PyData.list (d :: ds))) = _
  rw [h1, h2]
  rfl
theorem ev_lst {F : Nat → List D → M D} {a : Sx} {ρ : Ev} {ds : List D} (h : ev F a ρ = .ret (.list ds)) (hl : ds.length ≤ 1000) : ev F (.lst a) ρ = .ret (.list ds) := by
  show ((ev F a ρ).bind fun x => (lstD x).bind fun ds => need (decide (ds.length ≤ sizeLine)) (M.ret (PyData.list ds))) = _
  rw [h, b_ret, ls_l, b_ret, need_of (decide_eq_true (by rw [sizeLine_eq]; omega))]
/-- one statement that goes on -/
theorem ex_nx {fu : Nat} {F : Nat → List D → M D} {s r : Sx} {ρ ρ' : Ev} (h : exGo fu F s ρ = .ret (.nx ρ')) : exGo fu F (.cons s r) ρ = exGo fu F r ρ' := by
  show ((exGo fu F s ρ).bind _) = _
  rw [h]
  rfl
theorem ex_asg {fu : Nat} {F : Nat → List D → M D} {tg e : Sx} {ρ ρ' : Ev} {d : D} (h : ev F e ρ = .ret d) (ht : tgt tg d ρ = .ret ρ') : exGo fu F (.asg tg e) ρ = .ret (.nx ρ') := by
  show ((ev F e ρ).bind fun d => (tgt tg d ρ).bind fun ρ1 => M.ret (Out.nx ρ1)) = _
  rw [h, b_ret, ht]
  rfl
theorem s_right (x : D) (h : Gd x) : m_law_right [x] = .ret (.bool true) := by
  show runD fu 5 F_25 b_law_right [x] = _
  unfold runD b_law_right
  show ((exGo fu F_25 (.cons _ _) [some (.dat x), none, none, none, none]).bind _) = _
  have e1 : ev F_25 (.and (.isi (.var 0) .tup) (.cmp .eq (.lc [2] (.var 2) (.var 0) (.nt (.call 20 (.cons (.var 2) .nil))) (.var 2)) (.lst .nil))) [some (.dat x), none, none, none, none] = .ret (.bool (boxesB x)) := by
    rw [ev_and (ev_isi (d := x) rfl h.plain)]
    cases x with
    | tuple ds =>
      show ev F_25 (.cmp .eq _ _) _ = _
      exact ev_none (fun d hd => h.tup d hd) (lc_flt rfl rfl fun d hd => ⟨[some (.dat (.tuple ds)), none, some (.dat d), none, none], rfl, tst_of rfl (nt_call (by rw [ev_call1 (d := d) rfl, Fc_25_20]; exact s_boxed d (h.tup d hd))), rfl⟩)
    | dict _ => have := h.lay; simp [PyData.canLay0] at this
    | _ => rfl
  rw [ex_nx (ex_asg e1 (ρ' := [some (.dat x), some (.dat (.bool (boxesB x))), none, none, none]) rfl)]
  have c1 : ∀ ρ : Ev, gs ρ 0 = .ret x → ev F_25 (.call 16 (.cons (.var 0) .nil)) ρ = .ret (.bool (nameB x)) := fun ρ q => by rw [ev_call1 (e := .var 0) (d := x) q, Fc_25_16]; exact s_lname x h
  have c2 : ∀ ρ : Ev, gs ρ 0 = .ret x → ev F_25 (.call 15 (.cons (.var 0) .nil)) ρ = .ret (.bool (keyB x)) := fun ρ q => by rw [ev_call1 (e := .var 0) (d := x) q, Fc_25_15]; exact s_lkey x h.plain
  have c3 : ∀ ρ : Ev, gs ρ 0 = .ret x → ev F_25 (.call 17 (.cons (.var 0) .nil)) ρ = .ret (.bool (pageB x)) := fun ρ q => by rw [ev_call1 (e := .var 0) (d := x) q, Fc_25_17]; exact s_lpage x h
  have c4 : ∀ ρ : Ev, gs ρ 0 = .ret x → ev F_25 (.or (.call 17 (.cons (.var 0) .nil)) (.call 15 (.cons (.var 0) .nil))) ρ = .ret (.bool (keyB x || pageB x)) := fun ρ q => by
    rw [ev_or (c3 ρ q), c2 ρ q]
    cases pageB x <;> cases keyB x <;> rfl
  have c5 : ∀ ρ : Ev, gs ρ 0 = .ret x → ev F_25 (.call 19 (.cons (.var 0) .nil)) ρ = .ret (.bool (keysB x)) := fun ρ q => by rw [ev_call1 (e := .var 0) (d := x) q, Fc_25_19]; exact s_keyed x h
  have p1 : ∀ ρ : Ev, gs ρ 0 = .ret x → ev F_25 (.call 2 (.cons (.var 0) .nil)) ρ = .ret (.bool (nameB x)) := fun ρ q => by rw [ev_call1 (e := .var 0) (d := x) q, Fc_25_2]; exact s_name x h
  have p2 : ∀ ρ : Ev, gs ρ 0 = .ret x → ev F_25 (.call 3 (.cons (.var 0) .nil)) ρ = .ret (.bool (keyB x)) := fun ρ q => by rw [ev_call1 (e := .var 0) (d := x) q, Fc_25_3]; exact s_key x h.plain
  have p3 : ∀ ρ : Ev, gs ρ 0 = .ret x → ev F_25 (.call 4 (.cons (.var 0) .nil)) ρ = .ret (.bool (pageB x)) := fun ρ q => by rw [ev_call1 (e := .var 0) (d := x) q, Fc_25_4]; exact s_text x h
  have p4 : ∀ ρ : Ev, gs ρ 0 = .ret x → ev F_25 (.call 5 (.cons (.var 0) .nil)) ρ = .ret (.bool (keyB x || pageB x)) := fun ρ q => by rw [ev_call1 (e := .var 0) (d := x) q, Fc_25_5]; exact s_thing x h
  have p5 : ∀ ρ : Ev, gs ρ 0 = .ret x → ev F_25 (.call 8 (.cons (.var 0) .nil)) ρ = .ret (.bool (keysB x)) := fun ρ q => by rw [ev_call1 (e := .var 0) (d := x) q, Fc_25_8]; exact s_keys x h
  have q1 : ∀ ρ : Ev, gs ρ 0 = .ret x → ev F_25 (.call 9 (.cons (.var 0) .nil)) ρ = .ret (.bool (boxB x)) := fun ρ q => by rw [ev_call1 (e := .var 0) (d := x) q, Fc_25_9]; exact s_box x h
  have q2 : ∀ ρ : Ev, gs ρ 0 = .ret x → ev F_25 (.call 10 (.cons (.var 0) .nil)) ρ = .ret (.bool (boxesB x)) := fun ρ q => by rw [ev_call1 (e := .var 0) (d := x) q, Fc_25_10]; exact s_boxes x h
  have q3 : ∀ ρ : Ev, gs ρ 0 = .ret x → ev F_25 (.call 12 (.cons (.var 0) .nil)) ρ = .ret (.bool (shelfB x)) := fun ρ q => by rw [ev_call1 (e := .var 0) (d := x) q, Fc_25_12]; exact s_shelf x h
  have q4 : ∀ ρ : Ev, gs ρ 0 = .ret x → ev F_25 (.call 20 (.cons (.var 0) .nil)) ρ = .ret (.bool (boxB x)) := fun ρ q => by rw [ev_call1 (e := .var 0) (d := x) q, Fc_25_20]; exact s_boxed x h
  have q5 : ∀ ρ : Ev, gs ρ 0 = .ret x → ev F_25 (.call 25 (.cons (.var 0) .nil)) ρ = .ret (.bool (shelfB x)) := fun ρ q => by rw [ev_call1 (e := .var 0) (d := x) q, Fc_25_25]; exact s_shelved x h
  have nilr : ∀ ρ : Ev, ev F_25 .nil ρ = .ret (.list []) := fun _ => rfl
  let L : List D := [.bool (nameB x), .bool (keyB x), .bool (pageB x), .bool (keyB x || pageB x), .bool (keysB x)]
  let T : List D := [.bool (boxB x), .bool (boxesB x), .bool (shelfB x)]
  have g1 : ∀ ρ : Ev, gs ρ 0 = .ret x → ev F_25 (.lst (.cons (.call 16 (.cons (.var 0) .nil)) (.cons (.call 15 (.cons (.var 0) .nil)) (.cons (.call 17 (.cons (.var 0) .nil)) (.cons (.or (.call 17 (.cons (.var 0) .nil)) (.call 15 (.cons (.var 0) .nil))) (.cons (.call 19 (.cons (.var 0) .nil)) .nil)))))) ρ = .ret (.list L) := fun ρ q =>
    ev_lst (args_cons (c1 ρ q) (args_cons (c2 ρ q) (args_cons (c3 ρ q) (args_cons (c4 ρ q) (args_cons (c5 ρ q) (nilr ρ)))))) (Nat.le_of_ble_eq_true rfl)
  have g2 : ∀ ρ : Ev, gs ρ 0 = .ret x → ev F_25 (.lst (.cons (.call 2 (.cons (.var 0) .nil)) (.cons (.call 3 (.cons (.var 0) .nil)) (.cons (.call 4 (.cons (.var 0) .nil)) (.cons (.call 5 (.cons (.var 0) .nil)) (.cons (.call 8 (.cons (.var 0) .nil)) .nil)))))) ρ = .ret (.list L) := fun ρ q =>
    ev_lst (args_cons (p1 ρ q) (args_cons (p2 ρ q) (args_cons (p3 ρ q) (args_cons (p4 ρ q) (args_cons (p5 ρ q) (nilr ρ)))))) (Nat.le_of_ble_eq_true rfl)
  have s2 : exGo fu F_25 (.asgO 3 (.lst (.cons (.call 16 (.cons (.var 0) .nil)) (.cons (.call 15 (.cons (.var 0) .nil)) (.cons (.call 17 (.cons (.var 0) .nil)) (.cons (.or (.call 17 (.cons (.var 0) .nil)) (.call 15 (.cons (.var 0) .nil))) (.cons (.call 19 (.cons (.var 0) .nil)) .nil))))))) [some (.dat x), some (.dat (.bool (boxesB x))), none, none, none] = .ret (.nx [some (.dat x), some (.dat (.bool (boxesB x))), none, some (.own (.list L)), none]) := by
    show ((ev F_25 (.lst _) _).bind fun d => _) = _
    rw [g1 _ rfl]
    rfl
  rw [ex_nx s2, ex_nx (ex_asg (g2 _ rfl) (ρ' := [some (.dat x), some (.dat (.bool (boxesB x))), none, some (.own (.list L)), some (.dat (.list L))]) rfl)]
  have g3 : ∀ ρ : Ev, gs ρ 0 = .ret x → gs ρ 1 = .ret (.bool (boxesB x)) → ev F_25 (.lst (.cons (.call 20 (.cons (.var 0) .nil)) (.cons (.var 1) (.cons (.call 25 (.cons (.var 0) .nil)) .nil)))) ρ = .ret (.list T) := fun ρ q q' =>
    ev_lst (args_cons (q4 ρ q) (args_cons q' (args_cons (q5 ρ q) (nilr ρ)))) (Nat.le_of_ble_eq_true rfl)
  have g4 : ∀ ρ : Ev, gs ρ 0 = .ret x → ev F_25 (.lst (.cons (.call 9 (.cons (.var 0) .nil)) (.cons (.call 10 (.cons (.var 0) .nil)) (.cons (.call 12 (.cons (.var 0) .nil)) .nil)))) ρ = .ret (.list T) := fun ρ q =>
    ev_lst (args_cons (q1 ρ q) (args_cons (q2 ρ q) (args_cons (q3 ρ q) (nilr ρ)))) (Nat.le_of_ble_eq_true rfl)
  have s4 : exGo fu F_25 (.ext 3 (.lst (.cons (.call 20 (.cons (.var 0) .nil)) (.cons (.var 1) (.cons (.call 25 (.cons (.var 0) .nil)) .nil))))) [some (.dat x), some (.dat (.bool (boxesB x))), none, some (.own (.list L)), some (.dat (.list L))] = .ret (.nx [some (.dat x), some (.dat (.bool (boxesB x))), none, some (.own (.list (L ++ T))), some (.dat (.list L))]) := by
    show ((ev F_25 (.lst _) _).bind fun d => (lstD d).bind fun es => need (decide (L.length + es.length ≤ sizeLine)) (M.ret (Out.nx (chg [some (.dat x), some (.dat (.bool (boxesB x))), none, some (.own (.list L)), some (.dat (.list L))] 3 (L ++ es))))) = _
    rw [g3 _ rfl rfl, b_ret, ls_l, b_ret, need_of (decide_eq_true (by rw [sizeLine_eq]; exact Nat.le_of_ble_eq_true rfl))]
    rfl
  rw [ex_nx s4]
  have r8 := rep_ret (rep8 (nameB x) (keyB x) (pageB x) (keyB x || pageB x) (keysB x) (boxB x) (boxesB x) (shelfB x))
  have fin : ev F_25 (.cmp .eq (.bi .repr (.bin .add (.var 4) (.lst (.cons (.call 9 (.cons (.var 0) .nil)) (.cons (.call 10 (.cons (.var 0) .nil)) (.cons (.call 12 (.cons (.var 0) .nil)) .nil)))))) (.bi .repr (.var 3))) [some (.dat x), some (.dat (.bool (boxesB x))), none, some (.own (.list (L ++ T))), some (.dat (.list L))] = .ret (.bool true) := by
    show (((((M.ret (PyData.list L)).bind fun z => (ev F_25 (.lst _) _).bind fun y => op2 .add z y).bind fun d => bi1 .repr d).bind fun z => ((M.ret (PyData.list (L ++ T))).bind fun d => bi1 .repr d).bind fun y => cmp2 .eq z y)) = _
    rw [g4 _ rfl, b_ret, b_ret, b_ret]
    have oa : op2 .add (.list L) (.list T) = .ret (.list (L ++ T)) := by
      show need (decide (L.length + T.length ≤ sizeLine)) (M.ret (PyData.list (L ++ T))) = _
      rw [need_of (decide_eq_true (by rw [sizeLine_eq]; exact Nat.le_of_ble_eq_true rfl))]
    rw [oa, b_ret]
    show ((bi1 .repr (bl8 _ _ _ _ _ _ _ _)).bind fun z => (bi1 .repr (bl8 _ _ _ _ _ _ _ _)).bind fun y => cmp2 .eq z y) = _
    rw [r8.1, b_ret, b_ret]
    exact r8.2.1
  show ((((ev F_25 (.cmp .eq _ _) _).bind fun d => M.ret (Out.rt d)).bind _).bind _) = _
  rw [fin]
  rfl
end K01
namespace K01
open PySem PySem.Spec PyProof.Rows L2 Pf
/-- small data: what the generators give -/
structure Sm (b w : Nat) (d : D) : Prop where
  lay : d.canLay0 = true
  dep : d.depth ≤ b
  wt : d.weight ≤ w
theorem Sm.gd {b w : Nat} {d : D} (h : Sm b w d) (hb : b ≤ 40) (hw : w ≤ 500000) : Gd d := ⟨h.lay, Nat.le_trans h.dep hb, Nat.le_trans h.wt hw⟩
def oddL : List D := [.none, .bool true, .bool false, .int 0, .int (-1), .int 1, .str "", .str "a", .str "world", .tuple [], .list [], .tuple [.tuple [], .tuple []], .tuple [.str "memo", .int 0], .int 9, .tuple [.int 0], .tuple [.str "a"]]
theorem odd_sm : ∀ d ∈ oddL, Sm 2 20 d := by
  intro d hd
  simp only [oddL, List.mem_cons, List.mem_nil_iff, or_false] at hd
  rcases hd with rfl | rfl | rfl | rfl | rfl | rfl | rfl | rfl | rfl | rfl | rfl | rfl | rfl | rfl | rfl | rfl <;>
    exact ⟨by simp [PyData.canLay0, PyData.canLayAll0] <;> decide +kernel, by simp [PyData.depth, PyData.depthAll], by simp [PyData.weight, PyData.weightAll] <;> decide +kernel⟩
/-- ints below m -/
def Nums (m : Nat) (ds : List D) : Prop := ∀ d ∈ ds, ∃ i : Nat, i < m ∧ d = .int i
theorem pop_ok {m k : Nat} {ds : List D} (h : Nums m ds) (hk : k < ds.length) (hb : ds.length ≤ 1000) : ∃ z es, popD ds (k : Int) = some (z, es) ∧ (∃ i : Nat, i < m ∧ z = .int i) ∧ Nums m es ∧ es.length + 1 = ds.length := by
  have hs : seqIndex? (k : Int) ds.length = some k := by
    unfold seqIndex?
    simp [hk]
    try omega
  refine ⟨ds[k], ds.eraseIdx k, ?_, h _ (List.getElem_mem hk), fun d hd => h d (List.mem_of_mem_eraseIdx hd), ?_⟩
  · unfold popD
    rw [if_pos (by omega), hs]
    simp [hk]
  · rw [List.length_eraseIdx_of_lt hk]
    omega
theorem srt_ok {m : Nat} {ds : List D} (h : Nums m ds) : ∃ es, bi1 .srt (.list ds) = .ret (.list es) ∧ Nums m es ∧ es.length = ds.length := by
  have ins : ∀ (x : Int) (l : List Int), (insI x l).length = l.length + 1 ∧ ∀ y ∈ insI x l, y = x ∨ y ∈ l := by
    intro x l
    induction l with
    | nil => exact ⟨rfl, fun y hy => .inl (by simpa [insI] using hy)⟩
    | cons z r ih =>
      unfold insI
      split
      · exact ⟨rfl, fun y hy => by rcases List.mem_cons.mp hy with e | e; exact .inl e; exact .inr e⟩
      · refine ⟨by rw [List.length_cons, ih.1, List.length_cons], fun y hy => ?_⟩
        rcases List.mem_cons.mp hy with e | e
        · exact .inr (e ▸ List.mem_cons_self)
        · rcases ih.2 y e with e | e
          · exact .inl e
          · exact .inr (List.mem_cons_of_mem _ e)
  have srt : ∀ l : List Int, (sortI l).length = l.length ∧ ∀ y ∈ sortI l, y ∈ l := by
    intro l
    induction l with
    | nil => exact ⟨rfl, fun y hy => hy⟩
    | cons z r ih =>
      unfold sortI
      refine ⟨by rw [(ins z _).1, ih.1, List.length_cons], fun y hy => ?_⟩
      rcases (ins z _).2 y hy with e | e
      · exact e ▸ List.mem_cons_self
      · exact List.mem_cons_of_mem _ (ih.2 y e)
  have insq : ∀ ds : List D, Nums m ds → ∃ l : List Int, intsOf ds = some l ∧ l.length = ds.length ∧ ∀ y ∈ l, ∃ i : Nat, i < m ∧ y = i := by
    intro ds
    induction ds with
    | nil => intro _; exact ⟨[], rfl, rfl, fun y hy => by cases hy⟩
    | cons d r ih =>
      intro h
      obtain ⟨i, hi, rfl⟩ := h d List.mem_cons_self
      obtain ⟨l, h1, h2, h3⟩ := ih fun d hd => h d (List.mem_cons_of_mem _ hd)
      refine ⟨(i : Int) :: l, ?_, by rw [List.length_cons, h2, List.length_cons], fun y hy => ?_⟩
      · show (intsOf r).map ((i : Int) :: ·) = _
        rw [h1]
        rfl
      · rcases List.mem_cons.mp hy with e | e
        · exact ⟨i, hi, e⟩
        · exact h3 y e
  obtain ⟨l, h1, h2, h3⟩ := insq ds h
  refine ⟨(sortI l).map .int, ?_, fun d hd => ?_, by rw [List.length_map, (srt l).1, h2]⟩
  · show (match intsOf ds with
      | some ns => M.ret (PyData.list ((sortI ns).map .int))
      | none => M.bad) = _
    rw [h1]
  · obtain ⟨y, hy, rfl⟩ := List.mem_map.mp hd
    obtain ⟨i, hi, e⟩ := h3 y ((srt l).2 y hy)
    exact ⟨i, hi, by rw [e]⟩
theorem nums_rng (n : Nat) : Nums n (intR 0 n) ∧ (intR 0 n).length = n := by
  refine ⟨fun d hd => ?_, by simp [intR]⟩
  obtain ⟨i, hi, rfl⟩ := List.mem_map.mp hd
  exact ⟨i, List.mem_range.mp hi, by simp⟩
end K01
namespace K01
open PySem PySem.Spec PyProof.Rows L2 Pf
theorem Nums.app {m : Nat} {ds : List D} {d : D} (h : Nums m ds) (hd : ∃ i : Nat, i < m ∧ d = .int i) : Nums m (ds ++ [d]) := fun y hy => by
  rcases List.mem_append.mp hy with q | q
  · exact h y q
  · rw [List.mem_singleton.mp q]; exact hd
theorem wp_odd (ns : List Int) : WP (m_law_odd [feedD ns]) fun d => d ∈ oddL := by
  show WP (runD fu 2 F_22 b_law_odd [feedD ns]) _
  unfold b_law_odd
  simp -implicitDefEqProofs only [↓X_nil, ↓X_cons, ↓X_asg, ↓X_asgO, ↓X_par, ↓X_bor, ↓X_app, ↓X_ext, ↓X_rmv, ↓X_popS, ↓X_appPop, ↓X_augI, ↓X_iff, ↓X_for, ↓X_ret, ↓X_retN, ↓X_cont, ↓X_brk, ↓X_pas, ↓X_expr, ↓X_frz, ↓X_run, ↓E_var, ↓E_cst, ↓E_glob, ↓E_fref, ↓E_nil, ↓E_cons, ↓E_tup, ↓E_lst, ↓E_call, ↓E_callk, ↓E_bi, ↓E_isi, ↓E_bin, ↓E_cmp, ↓E_neg, ↓E_nt, ↓E_and, ↓E_or, ↓E_ifx, ↓E_idx, ↓E_sl, ↓E_rev, ↓E_rng1, ↓E_lrng, ↓E_trng, ↓E_lc, ↓E_upper, ↓E_step, ↓T_var, ↓T_tup, ↓T_nil, ↓T_cons, ↓W_bind, ↓W_ret, ↓W_need, ↓W_draw, ↓W_if', ↓kO_nx, ↓kO_ct, ↓kO_bk, ↓kO_rt, ↓kF_nx, ↓kF_ct, ↓kF_bk, ↓kF_rt, ↓kE_rt, ↓kE_nx, ↓kIf_t, ↓kIf_f, rdv, tst, itmv, optv, gs, gr, Pf.go, mkV, isFr, noOwn_eq, datOnly_eq, wip, tg_var, put_eq, chg, clr, clr_z, clr_o, clr_d, clr_b, clr_n, io_o, io_d, io_b, io_n, io_z, frzD, permD, SV.d, ls_l, in_i, it_l, it_t, t_b, bo_b, l_lst, l_tup, rev_l, rev_t, Pf.op_add, bi_int, c_lt, c_le, c_gt, c_ge, ev0, List.map_cons, List.map_nil, List.all_cons, List.all_nil, List.replicate, List.length_cons, List.length_nil, List.cons_append, List.nil_append, List.append_nil, List.set, List.getElem?_cons_zero, List.getElem?_cons_succ, Nat.reduceAdd, Nat.reduceSub, decide_eq_true_eq, ne_eq, if_true, if_false, Bool.false_eq_true, true_and, and_true, Option.map, ite_self, oz_c, oz_i, c_eqI, Option.getD_some, Option.getD_none, List.foldl, Bool.and_true, Bool.and_self, Bool.not_true, Bool.not_false, Fc_22_14]
  refine ⟨sz0 _ (by omega), sz0 _ (by omega), sz0 _ (by omega), sz0 _ (by omega), sz0 _ (by omega), sz0 _ (by omega), sz0 _ (by omega), sz0 _ (by omega), sz0 _ (by omega), by omega, pick_of rfl fun d hd => hd⟩
theorem wp_grip (ns : List Int) (many most : Nat) (h : most ≤ many) (hm : many ≤ 1000) : WP (m_law_grip [feedD ns, .int many, .int most]) (fun d => ∃ ds, d = .tuple ds ∧ Nums many ds ∧ ds.length ≤ most) := by
  show WP (runD fu 6 F_20 b_law_grip [feedD ns, .int many, .int most]) _
  unfold b_law_grip
  simp -implicitDefEqProofs only [↓X_nil, ↓X_cons, ↓X_asg, ↓X_asgO, ↓X_par, ↓X_bor, ↓X_app, ↓X_ext, ↓X_rmv, ↓X_popS, ↓X_appPop, ↓X_augI, ↓X_iff, ↓X_for, ↓X_ret, ↓X_retN, ↓X_cont, ↓X_brk, ↓X_pas, ↓X_expr, ↓X_frz, ↓X_run, ↓E_var, ↓E_cst, ↓E_glob, ↓E_fref, ↓E_nil, ↓E_cons, ↓E_tup, ↓E_lst, ↓E_call, ↓E_callk, ↓E_bi, ↓E_isi, ↓E_bin, ↓E_cmp, ↓E_neg, ↓E_nt, ↓E_and, ↓E_or, ↓E_ifx, ↓E_idx, ↓E_sl, ↓E_rev, ↓E_rng1, ↓E_lrng, ↓E_trng, ↓E_lc, ↓E_upper, ↓E_step, ↓T_var, ↓T_tup, ↓T_nil, ↓T_cons, ↓W_bind, ↓W_ret, ↓W_need, ↓W_draw, ↓W_if', ↓kO_nx, ↓kO_ct, ↓kO_bk, ↓kO_rt, ↓kF_nx, ↓kF_ct, ↓kF_bk, ↓kF_rt, ↓kE_rt, ↓kE_nx, ↓kIf_t, ↓kIf_f, rdv, tst, itmv, optv, gs, gr, Pf.go, mkV, isFr, noOwn_eq, datOnly_eq, wip, tg_var, put_eq, chg, clr, clr_z, clr_o, clr_d, clr_b, clr_n, io_o, io_d, io_b, io_n, io_z, frzD, permD, SV.d, ls_l, in_i, it_l, it_t, t_b, bo_b, l_lst, l_tup, rev_l, rev_t, Pf.op_add, bi_int, c_lt, c_le, c_gt, c_ge, ev0, List.map_cons, List.map_nil, List.all_cons, List.all_nil, List.replicate, List.length_cons, List.length_nil, List.cons_append, List.nil_append, List.append_nil, List.set, List.getElem?_cons_zero, List.getElem?_cons_succ, Nat.reduceAdd, Nat.reduceSub, decide_eq_true_eq, ne_eq, if_true, if_false, Bool.false_eq_true, true_and, and_true, Option.map, ite_self, oz_c, oz_i, c_eqI, Option.getD_some, Option.getD_none, List.foldl, Bool.and_true, Bool.and_self, Bool.not_true, Bool.not_false, Fc_20_14]
  refine ⟨by omega, sz0 _ (by omega), by omega, by omega, fun r hr => ⟨by omega, ?_⟩⟩
  refine wp_forI (fun left ρ => ∃ pool found o, ρ = [some (.dat (feedD ns)), some (.dat (.int many)), some (.dat (.int most)), some (.own (.list pool)), some (.own (.list found)), dz o] ∧ Nums many pool ∧ Nums many found ∧ pool.length + found.length = many ∧ found.length + left.length ≤ most) ?_ ?_ ?_
  · refine ⟨_, _, none, rfl, ?_, fun d hd => (by cases hd), ?_, ?_⟩
    · rw [Int.toNat_natCast]; exact (nums_rng many).1
    · rw [Int.toNat_natCast, (nums_rng many).2]; rfl
    · rw [Int.toNat_natCast, (nums_rng r).2]; simp; omega
  · rintro d r ρ ⟨pool, found, o, rfl, h1, h2, h3, h4⟩
    rw [List.length_cons] at h4
    simp -implicitDefEqProofs only [↓X_nil, ↓X_cons, ↓X_asg, ↓X_asgO, ↓X_par, ↓X_bor, ↓X_app, ↓X_ext, ↓X_rmv, ↓X_popS, ↓X_appPop, ↓X_augI, ↓X_iff, ↓X_for, ↓X_ret, ↓X_retN, ↓X_cont, ↓X_brk, ↓X_pas, ↓X_expr, ↓X_frz, ↓X_run, ↓E_var, ↓E_cst, ↓E_glob, ↓E_fref, ↓E_nil, ↓E_cons, ↓E_tup, ↓E_lst, ↓E_call, ↓E_callk, ↓E_bi, ↓E_isi, ↓E_bin, ↓E_cmp, ↓E_neg, ↓E_nt, ↓E_and, ↓E_or, ↓E_ifx, ↓E_idx, ↓E_sl, ↓E_rev, ↓E_rng1, ↓E_lrng, ↓E_trng, ↓E_lc, ↓E_upper, ↓E_step, ↓T_var, ↓T_tup, ↓T_nil, ↓T_cons, ↓W_bind, ↓W_ret, ↓W_need, ↓W_draw, ↓W_if', ↓kO_nx, ↓kO_ct, ↓kO_bk, ↓kO_rt, ↓kF_nx, ↓kF_ct, ↓kF_bk, ↓kF_rt, ↓kE_rt, ↓kE_nx, ↓kIf_t, ↓kIf_f, rdv, tst, itmv, optv, gs, gr, Pf.go, mkV, isFr, noOwn_eq, datOnly_eq, wip, tg_var, put_eq, chg, clr, clr_z, clr_o, clr_d, clr_b, clr_n, io_o, io_d, io_b, io_n, io_z, frzD, permD, SV.d, ls_l, in_i, it_l, it_t, t_b, bo_b, l_lst, l_tup, rev_l, rev_t, Pf.op_add, bi_int, c_lt, c_le, c_gt, c_ge, ev0, List.map_cons, List.map_nil, List.all_cons, List.all_nil, List.replicate, List.length_cons, List.length_nil, List.cons_append, List.nil_append, List.append_nil, List.set, List.getElem?_cons_zero, List.getElem?_cons_succ, Nat.reduceAdd, Nat.reduceSub, decide_eq_true_eq, ne_eq, if_true, if_false, Bool.false_eq_true, true_and, and_true, Option.map, ite_self, oz_c, oz_i, c_eqI, Option.getD_some, Option.getD_none, List.foldl, Bool.and_true, Bool.and_self, Bool.not_true, Bool.not_false, Fc_20_14]
    refine ⟨by omega, fun k hk => ?_⟩
    have hk' : k < pool.length := by omega
    rw [W_pop hk' (by omega)]
    refine ⟨⟨sz1 _ (by omega), by omega⟩, pool.eraseIdx k, found ++ [pool[k]], some d, rfl, fun y hy => h1 y (List.mem_of_mem_eraseIdx hy), h2.app (h1 _ (List.getElem_mem hk')), ?_, ?_⟩
    · rw [List.length_append, List.length_singleton, List.length_eraseIdx_of_lt hk']; omega
    · rw [List.length_append, List.length_singleton]; omega
  · rintro ρ ⟨pool, found, o, rfl, h1, h2, h3, h4⟩
    simp -implicitDefEqProofs only [↓X_nil, ↓X_cons, ↓X_asg, ↓X_asgO, ↓X_par, ↓X_bor, ↓X_app, ↓X_ext, ↓X_rmv, ↓X_popS, ↓X_appPop, ↓X_augI, ↓X_iff, ↓X_for, ↓X_ret, ↓X_retN, ↓X_cont, ↓X_brk, ↓X_pas, ↓X_expr, ↓X_frz, ↓X_run, ↓E_var, ↓E_cst, ↓E_glob, ↓E_fref, ↓E_nil, ↓E_cons, ↓E_tup, ↓E_lst, ↓E_call, ↓E_callk, ↓E_bi, ↓E_isi, ↓E_bin, ↓E_cmp, ↓E_neg, ↓E_nt, ↓E_and, ↓E_or, ↓E_ifx, ↓E_idx, ↓E_sl, ↓E_rev, ↓E_rng1, ↓E_lrng, ↓E_trng, ↓E_lc, ↓E_upper, ↓E_step, ↓T_var, ↓T_tup, ↓T_nil, ↓T_cons, ↓W_bind, ↓W_ret, ↓W_need, ↓W_draw, ↓W_if', ↓kO_nx, ↓kO_ct, ↓kO_bk, ↓kO_rt, ↓kF_nx, ↓kF_ct, ↓kF_bk, ↓kF_rt, ↓kE_rt, ↓kE_nx, ↓kIf_t, ↓kIf_f, rdv, tst, itmv, optv, gs, gr, Pf.go, mkV, isFr, noOwn_eq, datOnly_eq, wip, tg_var, put_eq, chg, clr, clr_z, clr_o, clr_d, clr_b, clr_n, io_o, io_d, io_b, io_n, io_z, frzD, permD, SV.d, ls_l, in_i, it_l, it_t, t_b, bo_b, l_lst, l_tup, rev_l, rev_t, Pf.op_add, bi_int, c_lt, c_le, c_gt, c_ge, ev0, List.map_cons, List.map_nil, List.all_cons, List.all_nil, List.replicate, List.length_cons, List.length_nil, List.cons_append, List.nil_append, List.append_nil, List.set, List.getElem?_cons_zero, List.getElem?_cons_succ, Nat.reduceAdd, Nat.reduceSub, decide_eq_true_eq, ne_eq, if_true, if_false, Bool.false_eq_true, true_and, and_true, Option.map, ite_self, oz_c, oz_i, c_eqI, Option.getD_some, Option.getD_none, List.foldl, Bool.and_true, Bool.and_self, Bool.not_true, Bool.not_false, Fc_20_14]
    obtain ⟨es, t1, t2, t3⟩ := srt_ok h2
    rw [t1]
    simp -implicitDefEqProofs only [↓X_nil, ↓X_cons, ↓X_asg, ↓X_asgO, ↓X_par, ↓X_bor, ↓X_app, ↓X_ext, ↓X_rmv, ↓X_popS, ↓X_appPop, ↓X_augI, ↓X_iff, ↓X_for, ↓X_ret, ↓X_retN, ↓X_cont, ↓X_brk, ↓X_pas, ↓X_expr, ↓X_frz, ↓X_run, ↓E_var, ↓E_cst, ↓E_glob, ↓E_fref, ↓E_nil, ↓E_cons, ↓E_tup, ↓E_lst, ↓E_call, ↓E_callk, ↓E_bi, ↓E_isi, ↓E_bin, ↓E_cmp, ↓E_neg, ↓E_nt, ↓E_and, ↓E_or, ↓E_ifx, ↓E_idx, ↓E_sl, ↓E_rev, ↓E_rng1, ↓E_lrng, ↓E_trng, ↓E_lc, ↓E_upper, ↓E_step, ↓T_var, ↓T_tup, ↓T_nil, ↓T_cons, ↓W_bind, ↓W_ret, ↓W_need, ↓W_draw, ↓W_if', ↓kO_nx, ↓kO_ct, ↓kO_bk, ↓kO_rt, ↓kF_nx, ↓kF_ct, ↓kF_bk, ↓kF_rt, ↓kE_rt, ↓kE_nx, ↓kIf_t, ↓kIf_f, rdv, tst, itmv, optv, gs, gr, Pf.go, mkV, isFr, noOwn_eq, datOnly_eq, wip, tg_var, put_eq, chg, clr, clr_z, clr_o, clr_d, clr_b, clr_n, io_o, io_d, io_b, io_n, io_z, frzD, permD, SV.d, ls_l, in_i, it_l, it_t, t_b, bo_b, l_lst, l_tup, rev_l, rev_t, Pf.op_add, bi_int, c_lt, c_le, c_gt, c_ge, ev0, List.map_cons, List.map_nil, List.all_cons, List.all_nil, List.replicate, List.length_cons, List.length_nil, List.cons_append, List.nil_append, List.append_nil, List.set, List.getElem?_cons_zero, List.getElem?_cons_succ, Nat.reduceAdd, Nat.reduceSub, decide_eq_true_eq, ne_eq, if_true, if_false, Bool.false_eq_true, true_and, and_true, Option.map, ite_self, oz_c, oz_i, c_eqI, Option.getD_some, Option.getD_none, List.foldl, Bool.and_true, Bool.and_self, Bool.not_true, Bool.not_false]
    exact ⟨es, rfl, t2, by rw [t3]; exact h4⟩
end K01
namespace K01
open PySem PySem.Spec PyProof.Rows L2 Pf

theorem shL {ds : List D} (h : ∀ d ∈ ds, d.canLay0 = true ∧ d.depth ≤ 60) : SeqAt.shaped (.list ds) = true := by
  have h1 := lay_of fun d hd => (h d hd).1
  have h2 := dep_of fun d hd => (h d hd).2
  have e1 : (PyData.list ds).canLay0 = true := by simp only [PyData.canLay0]; exact h1
  have e2 : (PyData.list ds).depth ≤ 64 := by simp only [PyData.depth]; omega
  unfold SeqAt.shaped
  rw [e1, decide_eq_true e2]
  rfl
theorem Nums.sh {m : Nat} {ds : List D} (h : Nums m ds) : SeqAt.shaped (.list ds) = true := shL fun d hd => by
  obtain ⟨i, _, rfl⟩ := h d hd
  exact ⟨rfl, Nat.zero_le _⟩
theorem Nums.ints {m : Nat} {ds : List D} (h : Nums m ds) : ∃ l, intsOf ds = some l := by
  induction ds with
  | nil => exact ⟨[], rfl⟩
  | cons d r ih =>
    obtain ⟨i, hi, rfl⟩ := h d List.mem_cons_self
    obtain ⟨l, e⟩ := ih fun d hd => h d (List.mem_cons_of_mem _ hd)
    refine ⟨(i : Int) :: l, ?_⟩
    show (intsOf r).map ((i : Int) :: ·) = _
    rw [e]
    rfl
theorem rmvD_ok {m : Nat} {i : Nat} : ∀ {ds : List D}, Nums m ds → (.int i : D) ∈ ds → ∃ es, rmvD (.int i) ds = some es ∧ Nums m es ∧ es.length + 1 = ds.length
  | [], _, hd => by cases hd
  | y :: r, h, hd => by
    obtain ⟨j, hj, rfl⟩ := h y List.mem_cons_self
    have hr : Nums m r := fun d hd => h d (List.mem_cons_of_mem _ hd)
    unfold rmvD
    rw [eqv_i]
    by_cases e : (j : Int) = i
    · rw [if_pos (decide_eq_true e)]
      exact ⟨r, rfl, hr, rfl⟩
    · rw [if_neg (by rw [decide_eq_true_eq]; exact e)]
      have hd' : (.int i : D) ∈ r := by
        rcases List.mem_cons.mp hd with q | q
        · exact absurd (by injection q with q; exact q.symm) e
        · exact q
      obtain ⟨es, e1, e2, e3⟩ := rmvD_ok hr hd'
      refine ⟨.int j :: es, by rw [e1]; rfl, fun d hd => ?_, by rw [List.length_cons, List.length_cons, e3]⟩
      rcases List.mem_cons.mp hd with q | q
      · exact ⟨j, hj, q⟩
      · exact e2 d q
theorem rmv_ok {m : Nat} {ds : List D} {d : D} (h : Nums m ds) (hd : d ∈ ds) : ∃ es, rmvM ds d = .ret es ∧ Nums m es ∧ es.length + 1 = ds.length := by
  obtain ⟨i, hi, rfl⟩ := h d hd
  obtain ⟨es, e1, e2, e3⟩ := rmvD_ok h hd
  obtain ⟨l, e⟩ := h.ints
  refine ⟨es, ?_, e2, e3⟩
  unfold rmvM
  rw [e, e1]
theorem intR_s (m : Nat) : intR 0 (m + 1) = intR 0 m ++ [.int m] := by
  unfold intR
  rw [List.range_succ, List.map_append, List.map_singleton, Int.zero_add]
theorem flt_len (i : Nat) : ∀ m : Nat, ((intR 0 m).filter fun d => !PyData.eqv d (.int i)).length = if i < m then m - 1 else m
  | 0 => rfl
  | m + 1 => by
    rw [intR_s, List.filter_append, List.length_append, flt_len i m]
    simp only [List.filter_cons, List.filter_nil, eqv_i]
    by_cases e : (m : Int) = i
    · have e' : m = i := by omega
      subst e'
      simp
    · by_cases l : i < m
      · simp [e, l, Nat.lt_succ_of_lt l]
        omega
      · have : ¬ i < m + 1 := by omega
        simp [e, l, this]
/-- a box's goal -/
def Go (m : Nat) (g : D) : Prop := (∃ i : Nat, i < m ∧ g = .int i) ∨ ∃ s ∈ [PyData.str "memo", PyData.str "a", PyData.str "world"], ∃ r : Nat, r < 2 ∧ g = .tuple [s, .int r]
def Bx (m : Nat) (e : D) : Prop := ∃ g ks, e = .tuple [g, .tuple ks] ∧ Go m g ∧ Nums m ks ∧ ks.length ≤ 3
theorem Go.ok {m : Nat} {g : D} (h : Go m g) : g.canLay0 = true ∧ g.depth ≤ 1 := by
  rcases h with ⟨i, hi, rfl⟩ | ⟨s, hs, r, hr, rfl⟩
  · exact ⟨rfl, Nat.zero_le _⟩
  · simp only [List.mem_cons, List.mem_nil_iff, or_false] at hs
    rcases hs with rfl | rfl | rfl <;> exact ⟨by simp [PyData.canLay0, PyData.canLayAll0] <;> decide +kernel, by simp [PyData.depth, PyData.depthAll]⟩
theorem Go.sh {m : Nat} {g : D} (h : Go m g) : SeqAt.shaped g = true := by
  have := h.ok
  unfold SeqAt.shaped
  rw [this.1, decide_eq_true (by omega)]
  rfl
theorem Nums.ok {m : Nat} {ks : List D} (h : Nums m ks) : (PyData.tuple ks).canLay0 = true ∧ (PyData.tuple ks).depth ≤ 1 := by
  have h1 : PyData.canLayAll0 ks = true := lay_of fun d hd => by obtain ⟨i, _, rfl⟩ := h d hd; rfl
  have h2 : PyData.depthAll ks ≤ 0 := dep_of fun d hd => by obtain ⟨i, _, rfl⟩ := h d hd; exact Nat.le_refl _
  simp only [PyData.canLay0, PyData.depth]
  exact ⟨h1, by omega⟩
theorem Bx.ok {m : Nat} {e : D} (h : Bx m e) : e.canLay0 = true ∧ e.depth ≤ 2 := by
  obtain ⟨g, ks, rfl, hg, hk, _⟩ := h
  have a := hg.ok
  have b := hk.ok
  simp only [PyData.canLay0, PyData.canLayAll0, PyData.depth, PyData.depthAll] at a b ⊢
  simp [a.1, b.1]
  omega
theorem flt_go {m : Nat} {g : D} (h : Go m g) : Nums m ((intR 0 m).filter fun d => !PyData.eqv d g) ∧ m ≤ ((intR 0 m).filter fun d => !PyData.eqv d g).length + 1 := by
  refine ⟨fun d hd => (nums_rng m).1 d (List.mem_filter.mp hd).1, ?_⟩
  rcases h with ⟨i, hi, rfl⟩ | ⟨s, hs, r, hr, rfl⟩
  · rw [flt_len, if_pos hi]
    omega
  · have : ((intR 0 m).filter fun d => !PyData.eqv d (.tuple [s, .int r])) = intR 0 m := List.filter_eq_self.mpr fun d hd => by
      obtain ⟨i, _, rfl⟩ := (nums_rng m).1 d hd
      simp [PyData.eqv]
    rw [this, (nums_rng m).2]
    omega
def b_law_lot_t0 : Sx := (.cons (.app 7 (.ifx (.cmp .ne (.var 12) (.lst .nil)) (.idx (.var 12) (.call 14 (.cons (.var 0) (.cons (.bi .len (.var 12)) .nil)))) (.idx (.var 6) (.cst (.int 0))))) (.cons (.rmv 6 (.idx (.var 7) (.neg (.cst (.int 1))))) .nil))
def b_law_lot_l0 : Sx := (.cons (.bor 12 6 (.cmp .gt (.call 14 (.cons (.var 0) (.cons (.cst (.int 4)) .nil))) (.cst (.int 0))) (.lc [8] (.var 8) (.var 6) (.cmp .isin (.var 8) (.var 9)) (.var 8))) b_law_lot_t0)
def b_law_lot_t1 : Sx := (.cons (.par 6 true (.lc [8] (.var 8) (.rng1 (.var 2)) (.cmp .ne (.var 8) (.var 5)) (.var 8)) 7 true (.lst .nil)) (.cons (.asg (.var 9) (.bin .add (.lst (.cons (.cst (.int 0)) (.cons (.cst (.int 1)) .nil))) (.lc [10] (.var 10) (.var 3) .none_ (.idx (.var 10) (.cst (.int 0)))))) (.cons (.forS (.var 11) (.rng1 (.idx (.lst (.cons (.cst (.int 1)) (.cons (.cst (.int 1)) (.cons (.cst (.int 1)) (.cons (.cst (.int 2)) (.cons (.cst (.int 2)) (.cons (.cst (.int 3)) .nil))))))) (.call 14 (.cons (.var 0) (.cons (.cst (.int 6)) .nil))))) b_law_lot_l0) (.cons (.app 3 (.tup (.cons (.var 5) (.cons (.bi .tup (.bi .srt (.var 7))) .nil)))) .nil))))
def b_law_lot_t2 : Sx := (.cons (.asg (.var 5) (.call 14 (.cons (.var 0) (.cons (.var 2) .nil)))) (.cons (.iff (.cmp .eq (.call 14 (.cons (.var 0) (.cons (.cst (.int 4)) .nil))) (.cst (.int 0))) (.cons (.asg (.var 5) (.tup (.cons (.idx (.lst (.cons (.cst (.str "memo")) (.cons (.cst (.str "a")) (.cons (.cst (.str "world")) .nil)))) (.call 14 (.cons (.var 0) (.cons (.cst (.int 3)) .nil)))) (.cons (.call 14 (.cons (.var 0) (.cons (.cst (.int 2)) .nil))) .nil)))) .nil) .nil) b_law_lot_t1))
def b_law_lot_l1 : Sx := (.cons (.iff (.and (.cmp .ne (.var 3) (.lst .nil)) (.cmp .eq (.call 14 (.cons (.var 0) (.cons (.cst (.int 9)) .nil))) (.cst (.int 0)))) (.cons (.app 3 (.idx (.var 3) (.call 14 (.cons (.var 0) (.cons (.bi .len (.var 3)) .nil))))) (.cons .cont .nil)) .nil) b_law_lot_t2)
theorem e_law_lot : b_law_lot = (.cons (.asgO 3 (.lst .nil)) (.cons (.forS (.var 4) (.rng1 (.var 1)) b_law_lot_l1) (.cons (.ret (.biIf .tup (.cmp .eq (.call 14 (.cons (.var 0) (.cons (.cst (.int 2)) .nil))) (.cst (.int 0))) (.rev (.var 3)) (.var 3))) .nil))) := rfl
end K01
namespace K01
open PySem PySem.Spec PyProof.Rows L2 Pf
theorem ix_lastL (xs : List D) (d : D) : idx2 (.list (xs ++ [d])) (.int (-1)) = .ret d := by
  have : ixAt (xs ++ [d]).length (-1) = some xs.length := by
    unfold ixAt L2.ixN
    simp
    try omega
  rw [List.length_append, List.length_singleton] at this
  simp [idx2, this]
theorem lot_e {mm : Nat} {pool some_ : List D} {d : D} {K : List D → D → Prop} (hp : Nums mm pool) (hd : d ∈ pool) (hsl : some_.length < 3) (q : ∀ es, Nums mm es → es.length + 1 = pool.length → K es d) : some_.length < sizeLine ∧ WP (idx2 (.list (some_ ++ [d])) (.int (-1))) fun e => WP (rmvM pool e) fun es => K es d := by
  refine ⟨sz1 _ (by omega), ?_⟩
  rw [ix_lastL]
  obtain ⟨es, e1, e2, e3⟩ := rmv_ok hp hd
  show WP (rmvM pool d) _
  rw [e1]
  exact q es e2 e3
theorem lot_t0 (ns : List Int) (s m : Int) (mm : Nat) (found pool some_ menu : List D) (k g near j : D) (v : SV) (hv : v = .dat (.list menu) ∨ v = .bor (.list menu)) (hp : Nums mm pool) (hs : Nums mm some_) (hsl : some_.length < 3) (hpl : 0 < pool.length) (hm : ∀ d ∈ menu, d ∈ pool) (hml : menu.length ≤ 1000) (Q : Out → Prop)
    (q : ∀ pool' some' o, Nums mm pool' → Nums mm some' → pool'.length + 1 = pool.length → some'.length = some_.length + 1 → Q (.nx [some (.dat (feedD ns)), some (.dat (.int s)), some (.dat (.int m)), some (.own (.list found)), some (.dat k), some (.dat g), some (.own (.list pool')), some (.own (.list some')), none, some (.dat near), none, some (.dat j), dz o])) :
    WP (exGo fu F_21 b_law_lot_t0 [some (.dat (feedD ns)), some (.dat (.int s)), some (.dat (.int m)), some (.own (.list found)), some (.dat k), some (.dat g), some (.own (.list pool)), some (.own (.list some_)), none, some (.dat near), none, some (.dat j), some v]) Q := by
  have hn : Nums mm menu := fun d hd => hp d (hm d hd)
  unfold b_law_lot_t0
  obtain ⟨p0, pr, rfl⟩ : ∃ p0 pr, pool = p0 :: pr := by cases pool with | nil => cases hpl | cons a b => exact ⟨a, b, rfl⟩
  have hd0 : idx2 (.list (p0 :: pr)) (.int 0) = .ret p0 := ix_inL (i := 0) rfl
  rcases hv with rfl | rfl
  · simp -implicitDefEqProofs only [↓X_nil, ↓X_cons, ↓X_asg, ↓X_asgO, ↓X_par, ↓X_bor, ↓X_app, ↓X_ext, ↓X_rmv, ↓X_popS, ↓X_appPop, ↓X_augI, ↓X_iff, ↓X_for, ↓X_ret, ↓X_retN, ↓X_cont, ↓X_brk, ↓X_pas, ↓X_expr, ↓X_frz, ↓X_run, ↓E_var, ↓E_cst, ↓E_glob, ↓E_fref, ↓E_nil, ↓E_cons, ↓E_tup, ↓E_lst, ↓E_call, ↓E_callk, ↓E_bi, ↓E_isi, ↓E_bin, ↓E_cmp, ↓E_neg, ↓E_nt, ↓E_and, ↓E_or, ↓E_ifx, ↓E_idx, ↓E_sl, ↓E_rev, ↓E_rng1, ↓E_lrng, ↓E_trng, ↓E_lc, ↓E_upper, ↓E_step, ↓T_var, ↓T_tup, ↓T_nil, ↓T_cons, ↓W_bind, ↓W_ret, ↓W_need, ↓W_draw, ↓W_if', ↓kO_nx, ↓kO_ct, ↓kO_bk, ↓kO_rt, ↓kF_nx, ↓kF_ct, ↓kF_bk, ↓kF_rt, ↓kE_rt, ↓kE_nx, ↓kIf_t, ↓kIf_f, rdv, tst, itmv, optv, gs, gr, Pf.go, mkV, isFr, noOwn_eq, datOnly_eq, wip, tg_var, put_eq, chg, clr, clr_z, clr_o, clr_d, clr_b, clr_n, io_o, io_d, io_b, io_n, io_z, frzD, permD, SV.d, ls_l, in_i, it_l, it_t, t_b, bo_b, l_lst, l_tup, rev_l, rev_t, Pf.op_add, bi_int, c_lt, c_le, c_gt, c_ge, ev0, List.map_cons, List.map_nil, List.all_cons, List.all_nil, List.replicate, List.length_cons, List.length_nil, List.cons_append, List.nil_append, List.append_nil, List.set, List.getElem?_cons_zero, List.getElem?_cons_succ, Nat.reduceAdd, Nat.reduceSub, decide_eq_true_eq, ne_eq, if_true, if_false, Bool.false_eq_true, true_and, and_true, Option.map, ite_self, oz_c, oz_i, c_eqI, Option.getD_some, Option.getD_none, List.foldl, Bool.and_true, Bool.and_self, Bool.not_true, Bool.not_false, Fc_21_14, c_ne, k_l, hn.sh, shaped_nil, eqv_nil, kIf_n]
    refine ⟨sz0 _ (by omega), kIf_of (fun _ => ?_) (fun he => ⟨?_, pick_of rfl fun d hd => ?_⟩)⟩
    · rw [hd0, W_ret]
      exact lot_e (K := fun es d => Q (.nx [_, _, _, _, _, _, some (.own (.list es)), some (.own (.list (some_ ++ [d]))), _, _, _, _, _])) hp List.mem_cons_self hsl fun es h1 h2 => q _ _ (some _) h1 (hs.app (hp _ List.mem_cons_self)) h2 (by simp)
    · cases menu with
      | nil => cases he
      | cons a b => simp only [List.length_cons] at hml ⊢; omega
    · exact lot_e (K := fun es d => Q (.nx [_, _, _, _, _, _, some (.own (.list es)), some (.own (.list (some_ ++ [d]))), _, _, _, _, _])) hp (hm d hd) hsl fun es h1 h2 => q _ _ (some _) h1 (hs.app (hn d hd)) h2 (by simp)
  · simp -implicitDefEqProofs only [↓X_nil, ↓X_cons, ↓X_asg, ↓X_asgO, ↓X_par, ↓X_bor, ↓X_app, ↓X_ext, ↓X_rmv, ↓X_popS, ↓X_appPop, ↓X_augI, ↓X_iff, ↓X_for, ↓X_ret, ↓X_retN, ↓X_cont, ↓X_brk, ↓X_pas, ↓X_expr, ↓X_frz, ↓X_run, ↓E_var, ↓E_cst, ↓E_glob, ↓E_fref, ↓E_nil, ↓E_cons, ↓E_tup, ↓E_lst, ↓E_call, ↓E_callk, ↓E_bi, ↓E_isi, ↓E_bin, ↓E_cmp, ↓E_neg, ↓E_nt, ↓E_and, ↓E_or, ↓E_ifx, ↓E_idx, ↓E_sl, ↓E_rev, ↓E_rng1, ↓E_lrng, ↓E_trng, ↓E_lc, ↓E_upper, ↓E_step, ↓T_var, ↓T_tup, ↓T_nil, ↓T_cons, ↓W_bind, ↓W_ret, ↓W_need, ↓W_draw, ↓W_if', ↓kO_nx, ↓kO_ct, ↓kO_bk, ↓kO_rt, ↓kF_nx, ↓kF_ct, ↓kF_bk, ↓kF_rt, ↓kE_rt, ↓kE_nx, ↓kIf_t, ↓kIf_f, rdv, tst, itmv, optv, gs, gr, Pf.go, mkV, isFr, noOwn_eq, datOnly_eq, wip, tg_var, put_eq, chg, clr, clr_z, clr_o, clr_d, clr_b, clr_n, io_o, io_d, io_b, io_n, io_z, frzD, permD, SV.d, ls_l, in_i, it_l, it_t, t_b, bo_b, l_lst, l_tup, rev_l, rev_t, Pf.op_add, bi_int, c_lt, c_le, c_gt, c_ge, ev0, List.map_cons, List.map_nil, List.all_cons, List.all_nil, List.replicate, List.length_cons, List.length_nil, List.cons_append, List.nil_append, List.append_nil, List.set, List.getElem?_cons_zero, List.getElem?_cons_succ, Nat.reduceAdd, Nat.reduceSub, decide_eq_true_eq, ne_eq, if_true, if_false, Bool.false_eq_true, true_and, and_true, Option.map, ite_self, oz_c, oz_i, c_eqI, Option.getD_some, Option.getD_none, List.foldl, Bool.and_true, Bool.and_self, Bool.not_true, Bool.not_false, Fc_21_14, c_ne, k_l, hn.sh, shaped_nil, eqv_nil, kIf_n]
    refine ⟨sz0 _ (by omega), kIf_of (fun _ => ?_) (fun he => ⟨?_, pick_of rfl fun d hd => ?_⟩)⟩
    · rw [hd0, W_ret]
      exact lot_e (K := fun es d => Q (.nx [_, _, _, _, _, _, some (.own (.list es)), some (.own (.list (some_ ++ [d]))), _, _, _, _, _])) hp List.mem_cons_self hsl fun es h1 h2 => q _ _ none h1 (hs.app (hp _ List.mem_cons_self)) h2 (by simp)
    · cases menu with
      | nil => cases he
      | cons a b => simp only [List.length_cons] at hml ⊢; omega
    · exact lot_e (K := fun es d => Q (.nx [_, _, _, _, _, _, some (.own (.list es)), some (.own (.list (some_ ++ [d]))), _, _, _, _, _])) hp (hm d hd) hsl fun es h1 h2 => q _ _ none h1 (hs.app (hn d hd)) h2 (by simp)

theorem lot_l0 (ns : List Int) (s m : Int) (mm : Nat) (hmm : mm ≤ 1000) (found : List D) (k g : D) (near : List D) (hne : SeqAt.shaped (.list near) = true) (n : Nat) (hn : n ≤ 3) (Q : Out → Prop) (pool : List D) (hp : Nums mm pool) (hpl : n < pool.length) (hpu : pool.length ≤ mm) (o11 o12 : Option D)
    (q : ∀ pool' some' o o', Nums mm some' → some'.length ≤ 3 → Q (.nx [some (.dat (feedD ns)), some (.dat (.int s)), some (.dat (.int m)), some (.own (.list found)), some (.dat k), some (.dat g), some (.own (.list pool')), some (.own (.list some')), none, some (.dat (.list near)), none, dz o, dz o'])) :
    WP (forGo (tgt (.var 11)) (exGo fu F_21 b_law_lot_l0) (intR 0 n) [some (.dat (feedD ns)), some (.dat (.int s)), some (.dat (.int m)), some (.own (.list found)), some (.dat k), some (.dat g), some (.own (.list pool)), some (.own (.list [])), none, some (.dat (.list near)), none, dz o11, dz o12]) Q := by
  refine wp_forI (fun left ρ => ∃ pool some_ o o', ρ = [some (.dat (feedD ns)), some (.dat (.int s)), some (.dat (.int m)), some (.own (.list found)), some (.dat k), some (.dat g), some (.own (.list pool)), some (.own (.list some_)), none, some (.dat (.list near)), none, dz o, dz o'] ∧ Nums mm pool ∧ Nums mm some_ ∧ some_.length + left.length ≤ 3 ∧ left.length < pool.length ∧ pool.length ≤ mm) ?_ ?_ ?_
  · refine ⟨pool, [], o11, o12, rfl, hp, fun d hd => (by cases hd), ?_, ?_, hpu⟩
    · rw [(nums_rng n).2]; simpa using hn
    · rw [(nums_rng n).2]; exact hpl
  · rintro d r ρ ⟨pool, some_, o, o', rfl, h1, h2, h3, h4, h5⟩
    rw [List.length_cons] at h3 h4
    unfold b_law_lot_l0
    simp -implicitDefEqProofs only [↓X_nil, ↓X_cons, ↓X_asg, ↓X_asgO, ↓X_par, ↓X_bor, ↓X_app, ↓X_ext, ↓X_rmv, ↓X_popS, ↓X_appPop, ↓X_augI, ↓X_iff, ↓X_for, ↓X_ret, ↓X_retN, ↓X_cont, ↓X_brk, ↓X_pas, ↓X_expr, ↓X_frz, ↓X_run, ↓E_var, ↓E_cst, ↓E_glob, ↓E_fref, ↓E_nil, ↓E_cons, ↓E_tup, ↓E_lst, ↓E_call, ↓E_callk, ↓E_bi, ↓E_isi, ↓E_bin, ↓E_cmp, ↓E_neg, ↓E_nt, ↓E_and, ↓E_or, ↓E_ifx, ↓E_idx, ↓E_sl, ↓E_rev, ↓E_rng1, ↓E_lrng, ↓E_trng, ↓E_lc, ↓E_upper, ↓E_step, ↓T_var, ↓T_tup, ↓T_nil, ↓T_cons, ↓W_bind, ↓W_ret, ↓W_need, ↓W_draw, ↓W_if', ↓kO_nx, ↓kO_ct, ↓kO_bk, ↓kO_rt, ↓kF_nx, ↓kF_ct, ↓kF_bk, ↓kF_rt, ↓kE_rt, ↓kE_nx, ↓kIf_t, ↓kIf_f, rdv, tst, itmv, optv, gs, gr, Pf.go, mkV, isFr, noOwn_eq, datOnly_eq, wip, tg_var, put_eq, chg, clr, clr_z, clr_o, clr_d, clr_b, clr_n, io_o, io_d, io_b, io_n, io_z, frzD, permD, SV.d, ls_l, in_i, it_l, it_t, t_b, bo_b, l_lst, l_tup, rev_l, rev_t, Pf.op_add, bi_int, c_lt, c_le, c_gt, c_ge, ev0, List.map_cons, List.map_nil, List.all_cons, List.all_nil, List.replicate, List.length_cons, List.length_nil, List.cons_append, List.nil_append, List.append_nil, List.set, List.getElem?_cons_zero, List.getElem?_cons_succ, Nat.reduceAdd, Nat.reduceSub, decide_eq_true_eq, ne_eq, if_true, if_false, Bool.false_eq_true, true_and, and_true, Option.map, ite_self, oz_c, oz_i, c_eqI, Option.getD_some, Option.getD_none, List.foldl, Bool.and_true, Bool.and_self, Bool.not_true, Bool.not_false, Fc_21_14]
    refine ⟨by omega, fun r1 hr1 => kIf_of (fun _ => ?_) fun _ => ?_⟩
    · refine wp_lc_flt (p := fun d => near.any fun z => PyData.eqv z d) (fun d hd => ?_) ?_
      · obtain ⟨i, _, rfl⟩ := h1 d hd
        simp -implicitDefEqProofs only [↓X_nil, ↓X_cons, ↓X_asg, ↓X_asgO, ↓X_par, ↓X_bor, ↓X_app, ↓X_ext, ↓X_rmv, ↓X_popS, ↓X_appPop, ↓X_augI, ↓X_iff, ↓X_for, ↓X_ret, ↓X_retN, ↓X_cont, ↓X_brk, ↓X_pas, ↓X_expr, ↓X_frz, ↓X_run, ↓E_var, ↓E_cst, ↓E_glob, ↓E_fref, ↓E_nil, ↓E_cons, ↓E_tup, ↓E_lst, ↓E_call, ↓E_callk, ↓E_bi, ↓E_isi, ↓E_bin, ↓E_cmp, ↓E_neg, ↓E_nt, ↓E_and, ↓E_or, ↓E_ifx, ↓E_idx, ↓E_sl, ↓E_rev, ↓E_rng1, ↓E_lrng, ↓E_trng, ↓E_lc, ↓E_upper, ↓E_step, ↓T_var, ↓T_tup, ↓T_nil, ↓T_cons, ↓W_bind, ↓W_ret, ↓W_need, ↓W_draw, ↓W_if', ↓kO_nx, ↓kO_ct, ↓kO_bk, ↓kO_rt, ↓kF_nx, ↓kF_ct, ↓kF_bk, ↓kF_rt, ↓kE_rt, ↓kE_nx, ↓kIf_t, ↓kIf_f, rdv, tst, itmv, optv, gs, gr, Pf.go, mkV, isFr, noOwn_eq, datOnly_eq, wip, tg_var, put_eq, chg, clr, clr_z, clr_o, clr_d, clr_b, clr_n, io_o, io_d, io_b, io_n, io_z, frzD, permD, SV.d, ls_l, in_i, it_l, it_t, t_b, bo_b, l_lst, l_tup, rev_l, rev_t, Pf.op_add, bi_int, c_lt, c_le, c_gt, c_ge, ev0, List.map_cons, List.map_nil, List.all_cons, List.all_nil, List.replicate, List.length_cons, List.length_nil, List.cons_append, List.nil_append, List.append_nil, List.set, List.getElem?_cons_zero, List.getElem?_cons_succ, Nat.reduceAdd, Nat.reduceSub, decide_eq_true_eq, ne_eq, if_true, if_false, Bool.false_eq_true, true_and, and_true, Option.map, ite_self, oz_c, oz_i, c_eqI, Option.getD_some, Option.getD_none, List.foldl, Bool.and_true, Bool.and_self, Bool.not_true, Bool.not_false, c_inL, hne, sh_i]
      · exact lot_t0 ns s m mm found pool some_ _ k g (.list near) d _ (.inl rfl) h1 h2 (by omega) (by omega) (fun d hd => (List.mem_filter.mp hd).1) (Nat.le_trans (List.length_filter_le _ _) (by omega)) _ fun pool' some' o a1 a2 a3 a4 => ⟨pool', some', some d, o, rfl, a1, a2, by omega, by omega, by omega⟩
    · exact lot_t0 ns s m mm found pool some_ pool k g (.list near) d _ (.inr rfl) h1 h2 (by omega) (by omega) (fun d hd => hd) (by omega) _ fun pool' some' o a1 a2 a3 a4 => ⟨pool', some', some d, o, rfl, a1, a2, by omega, by omega, by omega⟩
  · rintro ρ ⟨pool, some_, o, o', rfl, h1, h2, h3, h4⟩
    exact q _ _ _ _ h2 (by simpa using h3)
end K01
namespace K01
open PySem PySem.Spec PyProof.Rows L2 Pf
theorem Bx.gd {m : Nat} {ds : List D} (h : ∀ e ∈ ds, Bx m e) : SeqAt.shaped (.list ds) = true := shL fun d hd => by
  have := (h d hd).ok
  exact ⟨this.1, by omega⟩
/-- a box's goal, as an index gives it -/
def hdD : D → D
  | .tuple (g :: _) => g
  | d => d
theorem Bx.ix {m : Nat} {e : D} (h : Bx m e) : idx2 e (.int 0) = .ret (hdD e) ∧ Go m (hdD e) := by
  obtain ⟨g, ks, rfl, hg, hk, _⟩ := h
  exact ⟨rfl, hg⟩
theorem ad_l (a b : List D) (h : a.length + b.length ≤ 100000) : op2 .add (.list a) (.list b) = .ret (.list (a ++ b)) := by
  show need _ _ = _
  rw [need_of (decide_eq_true (sz0 _ h))]
theorem near_sh {m : Nat} {found : List D} (hf : ∀ e ∈ found, Bx m e) : SeqAt.shaped (.list ([.int 0, .int 1] ++ found.map hdD)) = true := shL fun d hd => by
  rcases List.mem_append.mp hd with q | q
  · simp only [List.mem_cons, List.mem_nil_iff, or_false] at q
    rcases q with rfl | rfl <;> exact ⟨rfl, Nat.zero_le _⟩
  · obtain ⟨e, he, rfl⟩ := List.mem_map.mp q
    have := (hf e he).ix.2.ok
    exact ⟨this.1, by omega⟩
theorem lot_t1 (ns : List Int) (s : Int) (mm : Nat) (h5 : 5 ≤ mm) (hmm : mm ≤ 1000) (found : List D) (hf : ∀ e ∈ found, Bx mm e) (hfl : found.length < 1000) (k g : D) (hg : Go mm g) (o6 o7 : Option (List D)) (o9 o11 o12 : Option D) (Q : Out → Prop)
    (q : ∀ e o6 o7 o9 o11 o12, Bx mm e → Q (.nx [some (.dat (feedD ns)), some (.dat (.int s)), some (.dat (.int mm)), some (.own (.list (found ++ [e]))), some (.dat k), some (.dat g), oz o6, oz o7, none, dz o9, none, dz o11, dz o12])) :
    WP (exGo fu F_21 b_law_lot_t1 [some (.dat (feedD ns)), some (.dat (.int s)), some (.dat (.int mm)), some (.own (.list found)), some (.dat k), some (.dat g), oz o6, oz o7, none, dz o9, none, dz o11, dz o12]) Q := by
  have hfg := flt_go hg
  unfold b_law_lot_t1
  rcases o6 with _ | l6 <;> rcases o7 with _ | l7 <;> simp -implicitDefEqProofs only [↓X_nil, ↓X_cons, ↓X_asg, ↓X_asgO, ↓X_par, ↓X_bor, ↓X_app, ↓X_ext, ↓X_rmv, ↓X_popS, ↓X_appPop, ↓X_augI, ↓X_iff, ↓X_for, ↓X_ret, ↓X_retN, ↓X_cont, ↓X_brk, ↓X_pas, ↓X_expr, ↓X_frz, ↓X_run, ↓E_var, ↓E_cst, ↓E_glob, ↓E_fref, ↓E_nil, ↓E_cons, ↓E_tup, ↓E_lst, ↓E_call, ↓E_callk, ↓E_bi, ↓E_biIf, ↓E_isi, ↓E_bin, ↓E_cmp, ↓E_neg, ↓E_nt, ↓E_and, ↓E_or, ↓E_ifx, ↓E_idx, ↓E_sl, ↓E_rev, ↓E_rng1, ↓E_lrng, ↓E_trng, ↓E_lc, ↓E_upper, ↓E_step, ↓T_var, ↓T_tup, ↓T_nil, ↓T_cons, ↓W_bind, ↓W_ret, ↓W_need, ↓W_draw, ↓W_if', ↓kO_nx, ↓kO_ct, ↓kO_bk, ↓kO_rt, ↓kF_nx, ↓kF_ct, ↓kF_bk, ↓kF_rt, ↓kE_rt, ↓kE_nx, ↓kIf_t, ↓kIf_f, rdv, tst, itmv, optv, gs, gr, Pf.go, mkV, isFr, noOwn_eq, datOnly_eq, wip, tg_var, put_eq, chg, clr, clr_z, clr_o, clr_d, clr_b, clr_n, io_o, io_d, io_b, io_n, io_z, frzD, permD, SV.d, ls_l, in_i, it_l, it_t, t_b, bo_b, l_lst, l_tup, rev_l, rev_t, Pf.op_add, bi_int, c_lt, c_le, c_gt, c_ge, ev0, List.map_cons, List.map_nil, List.all_cons, List.all_nil, List.replicate, List.length_cons, List.length_nil, List.cons_append, List.nil_append, List.append_nil, List.set, List.getElem?_cons_zero, List.getElem?_cons_succ, Nat.reduceAdd, Nat.reduceSub, decide_eq_true_eq, ne_eq, if_true, if_false, Bool.false_eq_true, true_and, and_true, Option.map, ite_self, oz_c, oz_i, c_eqI, Option.getD_some, Option.getD_none, List.foldl, Bool.and_true, Bool.and_self, Bool.not_true, Bool.not_false, Fc_21_14, Option.isSome_none, Option.isSome_some, Int.toNat_natCast]
  all_goals
    refine ⟨by omega, wp_lc_flt (p := fun d => !PyData.eqv d g) (fun d hd => ?_) ⟨sz0 _ (by omega), by omega, sz0 _ (by omega), wp_lc_map (f := hdD) (fun d hd => ?_) ?_⟩⟩
    · obtain ⟨i, _, rfl⟩ := (nums_rng mm).1 d hd
      simp -implicitDefEqProofs only [↓X_nil, ↓X_cons, ↓X_asg, ↓X_asgO, ↓X_par, ↓X_bor, ↓X_app, ↓X_ext, ↓X_rmv, ↓X_popS, ↓X_appPop, ↓X_augI, ↓X_iff, ↓X_for, ↓X_ret, ↓X_retN, ↓X_cont, ↓X_brk, ↓X_pas, ↓X_expr, ↓X_frz, ↓X_run, ↓E_var, ↓E_cst, ↓E_glob, ↓E_fref, ↓E_nil, ↓E_cons, ↓E_tup, ↓E_lst, ↓E_call, ↓E_callk, ↓E_bi, ↓E_biIf, ↓E_isi, ↓E_bin, ↓E_cmp, ↓E_neg, ↓E_nt, ↓E_and, ↓E_or, ↓E_ifx, ↓E_idx, ↓E_sl, ↓E_rev, ↓E_rng1, ↓E_lrng, ↓E_trng, ↓E_lc, ↓E_upper, ↓E_step, ↓T_var, ↓T_tup, ↓T_nil, ↓T_cons, ↓W_bind, ↓W_ret, ↓W_need, ↓W_draw, ↓W_if', ↓kO_nx, ↓kO_ct, ↓kO_bk, ↓kO_rt, ↓kF_nx, ↓kF_ct, ↓kF_bk, ↓kF_rt, ↓kE_rt, ↓kE_nx, ↓kIf_t, ↓kIf_f, rdv, tst, itmv, optv, gs, gr, Pf.go, mkV, isFr, noOwn_eq, datOnly_eq, wip, tg_var, put_eq, chg, clr, clr_z, clr_o, clr_d, clr_b, clr_n, io_o, io_d, io_b, io_n, io_z, frzD, permD, SV.d, ls_l, in_i, it_l, it_t, t_b, bo_b, l_lst, l_tup, rev_l, rev_t, Pf.op_add, bi_int, c_lt, c_le, c_gt, c_ge, ev0, List.map_cons, List.map_nil, List.all_cons, List.all_nil, List.replicate, List.length_cons, List.length_nil, List.cons_append, List.nil_append, List.append_nil, List.set, List.getElem?_cons_zero, List.getElem?_cons_succ, Nat.reduceAdd, Nat.reduceSub, decide_eq_true_eq, ne_eq, if_true, if_false, Bool.false_eq_true, true_and, and_true, Option.map, ite_self, oz_c, oz_i, c_eqI, Option.getD_some, Option.getD_none, List.foldl, Bool.and_true, Bool.and_self, Bool.not_true, Bool.not_false, c_ne, k_i, sh_i, hg.sh]
    · simp -implicitDefEqProofs only [↓X_nil, ↓X_cons, ↓X_asg, ↓X_asgO, ↓X_par, ↓X_bor, ↓X_app, ↓X_ext, ↓X_rmv, ↓X_popS, ↓X_appPop, ↓X_augI, ↓X_iff, ↓X_for, ↓X_ret, ↓X_retN, ↓X_cont, ↓X_brk, ↓X_pas, ↓X_expr, ↓X_frz, ↓X_run, ↓E_var, ↓E_cst, ↓E_glob, ↓E_fref, ↓E_nil, ↓E_cons, ↓E_tup, ↓E_lst, ↓E_call, ↓E_callk, ↓E_bi, ↓E_biIf, ↓E_isi, ↓E_bin, ↓E_cmp, ↓E_neg, ↓E_nt, ↓E_and, ↓E_or, ↓E_ifx, ↓E_idx, ↓E_sl, ↓E_rev, ↓E_rng1, ↓E_lrng, ↓E_trng, ↓E_lc, ↓E_upper, ↓E_step, ↓T_var, ↓T_tup, ↓T_nil, ↓T_cons, ↓W_bind, ↓W_ret, ↓W_need, ↓W_draw, ↓W_if', ↓kO_nx, ↓kO_ct, ↓kO_bk, ↓kO_rt, ↓kF_nx, ↓kF_ct, ↓kF_bk, ↓kF_rt, ↓kE_rt, ↓kE_nx, ↓kIf_t, ↓kIf_f, rdv, tst, itmv, optv, gs, gr, Pf.go, mkV, isFr, noOwn_eq, datOnly_eq, wip, tg_var, put_eq, chg, clr, clr_z, clr_o, clr_d, clr_b, clr_n, io_o, io_d, io_b, io_n, io_z, frzD, permD, SV.d, ls_l, in_i, it_l, it_t, t_b, bo_b, l_lst, l_tup, rev_l, rev_t, Pf.op_add, bi_int, c_lt, c_le, c_gt, c_ge, ev0, List.map_cons, List.map_nil, List.all_cons, List.all_nil, List.replicate, List.length_cons, List.length_nil, List.cons_append, List.nil_append, List.append_nil, List.set, List.getElem?_cons_zero, List.getElem?_cons_succ, Nat.reduceAdd, Nat.reduceSub, decide_eq_true_eq, ne_eq, if_true, if_false, Bool.false_eq_true, true_and, and_true, Option.map, ite_self, oz_c, oz_i, c_eqI, Option.getD_some, Option.getD_none, List.foldl, Bool.and_true, Bool.and_self, Bool.not_true, Bool.not_false]
      rw [(hf d hd).ix.1, W_ret]
    · rw [ad_l _ _ (by simp; omega), W_ret]
      refine ⟨sz0 _ (by omega), by omega, pick_of rfl fun u hu => ?_⟩
      obtain ⟨n, hn, rfl⟩ : ∃ n : Nat, (1 ≤ n ∧ n ≤ 3) ∧ u = .int n := by
        simp only [List.mem_cons, List.mem_nil_iff, or_false] at hu
        rcases hu with rfl | rfl | rfl | rfl | rfl | rfl
        · exact ⟨1, by omega, rfl⟩
        · exact ⟨1, by omega, rfl⟩
        · exact ⟨1, by omega, rfl⟩
        · exact ⟨2, by omega, rfl⟩
        · exact ⟨2, by omega, rfl⟩
        · exact ⟨3, by omega, rfl⟩
      rw [in_i, W_ret]
      refine ⟨by omega, ?_⟩
      rw [Int.toNat_natCast]
      refine lot_l0 ns s mm mm hmm found k g _ (near_sh hf) n hn.2 _ _ hfg.1 (Nat.lt_of_succ_lt_succ (Nat.lt_of_lt_of_le (by omega : n + 1 < mm) hfg.2)) (Nat.le_trans (List.length_filter_le _ _) (by rw [(nums_rng mm).2]; omega)) o11 o12 fun pool' some' o o' a1 a2 => ?_
      obtain ⟨es, t1, t2, t3⟩ := srt_ok a1
      simp -implicitDefEqProofs only [↓X_nil, ↓X_cons, ↓X_asg, ↓X_asgO, ↓X_par, ↓X_bor, ↓X_app, ↓X_ext, ↓X_rmv, ↓X_popS, ↓X_appPop, ↓X_augI, ↓X_iff, ↓X_for, ↓X_ret, ↓X_retN, ↓X_cont, ↓X_brk, ↓X_pas, ↓X_expr, ↓X_frz, ↓X_run, ↓E_var, ↓E_cst, ↓E_glob, ↓E_fref, ↓E_nil, ↓E_cons, ↓E_tup, ↓E_lst, ↓E_call, ↓E_callk, ↓E_bi, ↓E_biIf, ↓E_isi, ↓E_bin, ↓E_cmp, ↓E_neg, ↓E_nt, ↓E_and, ↓E_or, ↓E_ifx, ↓E_idx, ↓E_sl, ↓E_rev, ↓E_rng1, ↓E_lrng, ↓E_trng, ↓E_lc, ↓E_upper, ↓E_step, ↓T_var, ↓T_tup, ↓T_nil, ↓T_cons, ↓W_bind, ↓W_ret, ↓W_need, ↓W_draw, ↓W_if', ↓kO_nx, ↓kO_ct, ↓kO_bk, ↓kO_rt, ↓kF_nx, ↓kF_ct, ↓kF_bk, ↓kF_rt, ↓kE_rt, ↓kE_nx, ↓kIf_t, ↓kIf_f, rdv, tst, itmv, optv, gs, gr, Pf.go, mkV, isFr, noOwn_eq, datOnly_eq, wip, tg_var, put_eq, chg, clr, clr_z, clr_o, clr_d, clr_b, clr_n, io_o, io_d, io_b, io_n, io_z, frzD, permD, SV.d, ls_l, in_i, it_l, it_t, t_b, bo_b, l_lst, l_tup, rev_l, rev_t, Pf.op_add, bi_int, c_lt, c_le, c_gt, c_ge, ev0, List.map_cons, List.map_nil, List.all_cons, List.all_nil, List.replicate, List.length_cons, List.length_nil, List.cons_append, List.nil_append, List.append_nil, List.set, List.getElem?_cons_zero, List.getElem?_cons_succ, Nat.reduceAdd, Nat.reduceSub, decide_eq_true_eq, ne_eq, if_true, if_false, Bool.false_eq_true, true_and, and_true, Option.map, ite_self, oz_c, oz_i, c_eqI, Option.getD_some, Option.getD_none, List.foldl, Bool.and_true, Bool.and_self, Bool.not_true, Bool.not_false]
      rw [t1]
      simp -implicitDefEqProofs only [↓X_nil, ↓X_cons, ↓X_asg, ↓X_asgO, ↓X_par, ↓X_bor, ↓X_app, ↓X_ext, ↓X_rmv, ↓X_popS, ↓X_appPop, ↓X_augI, ↓X_iff, ↓X_for, ↓X_ret, ↓X_retN, ↓X_cont, ↓X_brk, ↓X_pas, ↓X_expr, ↓X_frz, ↓X_run, ↓E_var, ↓E_cst, ↓E_glob, ↓E_fref, ↓E_nil, ↓E_cons, ↓E_tup, ↓E_lst, ↓E_call, ↓E_callk, ↓E_bi, ↓E_biIf, ↓E_isi, ↓E_bin, ↓E_cmp, ↓E_neg, ↓E_nt, ↓E_and, ↓E_or, ↓E_ifx, ↓E_idx, ↓E_sl, ↓E_rev, ↓E_rng1, ↓E_lrng, ↓E_trng, ↓E_lc, ↓E_upper, ↓E_step, ↓T_var, ↓T_tup, ↓T_nil, ↓T_cons, ↓W_bind, ↓W_ret, ↓W_need, ↓W_draw, ↓W_if', ↓kO_nx, ↓kO_ct, ↓kO_bk, ↓kO_rt, ↓kF_nx, ↓kF_ct, ↓kF_bk, ↓kF_rt, ↓kE_rt, ↓kE_nx, ↓kIf_t, ↓kIf_f, rdv, tst, itmv, optv, gs, gr, Pf.go, mkV, isFr, noOwn_eq, datOnly_eq, wip, tg_var, put_eq, chg, clr, clr_z, clr_o, clr_d, clr_b, clr_n, io_o, io_d, io_b, io_n, io_z, frzD, permD, SV.d, ls_l, in_i, it_l, it_t, t_b, bo_b, l_lst, l_tup, rev_l, rev_t, Pf.op_add, bi_int, c_lt, c_le, c_gt, c_ge, ev0, List.map_cons, List.map_nil, List.all_cons, List.all_nil, List.replicate, List.length_cons, List.length_nil, List.cons_append, List.nil_append, List.append_nil, List.set, List.getElem?_cons_zero, List.getElem?_cons_succ, Nat.reduceAdd, Nat.reduceSub, decide_eq_true_eq, ne_eq, if_true, if_false, Bool.false_eq_true, true_and, and_true, Option.map, ite_self, oz_c, oz_i, c_eqI, Option.getD_some, Option.getD_none, List.foldl, Bool.and_true, Bool.and_self, Bool.not_true, Bool.not_false]
      exact ⟨sz0 _ (by omega), sz1 _ (by omega), q (.tuple [g, .tuple es]) (some pool') (some some') (some _) o o' ⟨g, es, rfl, hg, t2, by omega⟩⟩
theorem lot_t2 (ns : List Int) (s : Int) (mm : Nat) (h5 : 5 ≤ mm) (hmm : mm ≤ 1000) (found : List D) (hf : ∀ e ∈ found, Bx mm e) (hfl : found.length < 1000) (k : D) (o5 : Option D) (o6 o7 : Option (List D)) (o9 o11 o12 : Option D) (Q : Out → Prop)
    (q : ∀ e o5 o6 o7 o9 o11 o12, Bx mm e → Q (.nx [some (.dat (feedD ns)), some (.dat (.int s)), some (.dat (.int mm)), some (.own (.list (found ++ [e]))), some (.dat k), dz o5, oz o6, oz o7, none, dz o9, none, dz o11, dz o12])) :
    WP (exGo fu F_21 b_law_lot_t2 [some (.dat (feedD ns)), some (.dat (.int s)), some (.dat (.int mm)), some (.own (.list found)), some (.dat k), dz o5, oz o6, oz o7, none, dz o9, none, dz o11, dz o12]) Q := by
  unfold b_law_lot_t2
  simp -implicitDefEqProofs only [↓X_nil, ↓X_cons, ↓X_asg, ↓X_asgO, ↓X_par, ↓X_bor, ↓X_app, ↓X_ext, ↓X_rmv, ↓X_popS, ↓X_appPop, ↓X_augI, ↓X_iff, ↓X_for, ↓X_ret, ↓X_retN, ↓X_cont, ↓X_brk, ↓X_pas, ↓X_expr, ↓X_frz, ↓X_run, ↓E_var, ↓E_cst, ↓E_glob, ↓E_fref, ↓E_nil, ↓E_cons, ↓E_tup, ↓E_lst, ↓E_call, ↓E_callk, ↓E_bi, ↓E_biIf, ↓E_isi, ↓E_bin, ↓E_cmp, ↓E_neg, ↓E_nt, ↓E_and, ↓E_or, ↓E_ifx, ↓E_idx, ↓E_sl, ↓E_rev, ↓E_rng1, ↓E_lrng, ↓E_trng, ↓E_lc, ↓E_upper, ↓E_step, ↓T_var, ↓T_tup, ↓T_nil, ↓T_cons, ↓W_bind, ↓W_ret, ↓W_need, ↓W_draw, ↓W_if', ↓kO_nx, ↓kO_ct, ↓kO_bk, ↓kO_rt, ↓kF_nx, ↓kF_ct, ↓kF_bk, ↓kF_rt, ↓kE_rt, ↓kE_nx, ↓kIf_t, ↓kIf_f, rdv, tst, itmv, optv, gs, gr, Pf.go, mkV, isFr, noOwn_eq, datOnly_eq, wip, tg_var, put_eq, chg, clr, clr_z, clr_o, clr_d, clr_b, clr_n, io_o, io_d, io_b, io_n, io_z, frzD, permD, SV.d, ls_l, in_i, it_l, it_t, t_b, bo_b, l_lst, l_tup, rev_l, rev_t, Pf.op_add, bi_int, c_lt, c_le, c_gt, c_ge, ev0, List.map_cons, List.map_nil, List.all_cons, List.all_nil, List.replicate, List.length_cons, List.length_nil, List.cons_append, List.nil_append, List.append_nil, List.set, List.getElem?_cons_zero, List.getElem?_cons_succ, Nat.reduceAdd, Nat.reduceSub, decide_eq_true_eq, ne_eq, if_true, if_false, Bool.false_eq_true, true_and, and_true, Option.map, ite_self, oz_c, oz_i, c_eqI, Option.getD_some, Option.getD_none, List.foldl, Bool.and_true, Bool.and_self, Bool.not_true, Bool.not_false, Fc_21_14]
  refine ⟨by omega, fun r hr => ⟨by omega, fun r1 _ => kIf_of (fun _ => ?_) fun _ => ?_⟩⟩
  · refine ⟨sz0 _ (by omega), by omega, pick_of rfl fun u hu => ⟨by omega, fun r2 h2 => ⟨sz0 _ (by omega), ?_⟩⟩⟩
    exact lot_t1 ns s mm h5 hmm found hf hfl k _ (.inr ⟨u, hu, r2, by omega, rfl⟩) o6 o7 o9 o11 o12 Q fun e a b c d' e' he => q e (some _) a b c d' e' he
  · exact lot_t1 ns s mm h5 hmm found hf hfl k _ (.inl ⟨r, by omega, rfl⟩) o6 o7 o9 o11 o12 Q fun e a b c d' e' he => q e (some _) a b c d' e' he
theorem wp_lot (ns : List Int) (size mm : Nat) (h5 : 5 ≤ mm) (hmm : mm ≤ 1000) (hs : size < 1000) : WP (m_law_lot [feedD ns, .int size, .int mm]) fun d => ∃ ds, d = .tuple ds ∧ (∀ e ∈ ds, Bx mm e) ∧ ds.length = size := by
  show WP (runD fu 13 F_21 b_law_lot [feedD ns, .int size, .int mm]) _
  rw [e_law_lot]
  simp -implicitDefEqProofs only [↓X_nil, ↓X_cons, ↓X_asg, ↓X_asgO, ↓X_par, ↓X_bor, ↓X_app, ↓X_ext, ↓X_rmv, ↓X_popS, ↓X_appPop, ↓X_augI, ↓X_iff, ↓X_for, ↓X_ret, ↓X_retN, ↓X_cont, ↓X_brk, ↓X_pas, ↓X_expr, ↓X_frz, ↓X_run, ↓E_var, ↓E_cst, ↓E_glob, ↓E_fref, ↓E_nil, ↓E_cons, ↓E_tup, ↓E_lst, ↓E_call, ↓E_callk, ↓E_bi, ↓E_biIf, ↓E_isi, ↓E_bin, ↓E_cmp, ↓E_neg, ↓E_nt, ↓E_and, ↓E_or, ↓E_ifx, ↓E_idx, ↓E_sl, ↓E_rev, ↓E_rng1, ↓E_lrng, ↓E_trng, ↓E_lc, ↓E_upper, ↓E_step, ↓T_var, ↓T_tup, ↓T_nil, ↓T_cons, ↓W_bind, ↓W_ret, ↓W_need, ↓W_draw, ↓W_if', ↓kO_nx, ↓kO_ct, ↓kO_bk, ↓kO_rt, ↓kF_nx, ↓kF_ct, ↓kF_bk, ↓kF_rt, ↓kE_rt, ↓kE_nx, ↓kIf_t, ↓kIf_f, rdv, tst, itmv, optv, gs, gr, Pf.go, mkV, isFr, noOwn_eq, datOnly_eq, wip, tg_var, put_eq, chg, clr, clr_z, clr_o, clr_d, clr_b, clr_n, io_o, io_d, io_b, io_n, io_z, frzD, permD, SV.d, ls_l, in_i, it_l, it_t, t_b, bo_b, l_lst, l_tup, rev_l, rev_t, Pf.op_add, bi_int, c_lt, c_le, c_gt, c_ge, ev0, List.map_cons, List.map_nil, List.all_cons, List.all_nil, List.replicate, List.length_cons, List.length_nil, List.cons_append, List.nil_append, List.append_nil, List.set, List.getElem?_cons_zero, List.getElem?_cons_succ, Nat.reduceAdd, Nat.reduceSub, decide_eq_true_eq, ne_eq, if_true, if_false, Bool.false_eq_true, true_and, and_true, Option.map, ite_self, oz_c, oz_i, c_eqI, Option.getD_some, Option.getD_none, List.foldl, Bool.and_true, Bool.and_self, Bool.not_true, Bool.not_false, Fc_21_14, Int.toNat_natCast]
  refine ⟨sz0 _ (by omega), by omega, ?_⟩
  refine wp_forI (fun left ρ => ∃ found o4 o5 o6 o7 o9 o11 o12, ρ = [some (.dat (feedD ns)), some (.dat (.int size)), some (.dat (.int mm)), some (.own (.list found)), dz o4, dz o5, oz o6, oz o7, none, dz o9, none, dz o11, dz o12] ∧ (∀ e ∈ found, Bx mm e) ∧ found.length + left.length = size) ?_ ?_ ?_
  · exact ⟨[], none, none, none, none, none, none, none, rfl, fun e he => (by cases he), by rw [(nums_rng size).2]; exact Nat.zero_add _⟩
  · rintro d r ρ ⟨found, o4, o5, o6, o7, o9, o11, o12, rfl, h1, h2⟩
    rw [List.length_cons] at h2
    have app : ∀ e, Bx mm e → ∀ e' ∈ found ++ [e], Bx mm e' := fun e he e' h => by
      rcases List.mem_append.mp h with h | h
      · exact h1 e' h
      · rw [List.mem_singleton.mp h]; exact he
    unfold b_law_lot_l1
    simp -implicitDefEqProofs only [↓X_nil, ↓X_cons, ↓X_asg, ↓X_asgO, ↓X_par, ↓X_bor, ↓X_app, ↓X_ext, ↓X_rmv, ↓X_popS, ↓X_appPop, ↓X_augI, ↓X_iff, ↓X_for, ↓X_ret, ↓X_retN, ↓X_cont, ↓X_brk, ↓X_pas, ↓X_expr, ↓X_frz, ↓X_run, ↓E_var, ↓E_cst, ↓E_glob, ↓E_fref, ↓E_nil, ↓E_cons, ↓E_tup, ↓E_lst, ↓E_call, ↓E_callk, ↓E_bi, ↓E_biIf, ↓E_isi, ↓E_bin, ↓E_cmp, ↓E_neg, ↓E_nt, ↓E_and, ↓E_or, ↓E_ifx, ↓E_idx, ↓E_sl, ↓E_rev, ↓E_rng1, ↓E_lrng, ↓E_trng, ↓E_lc, ↓E_upper, ↓E_step, ↓T_var, ↓T_tup, ↓T_nil, ↓T_cons, ↓W_bind, ↓W_ret, ↓W_need, ↓W_draw, ↓W_if', ↓kO_nx, ↓kO_ct, ↓kO_bk, ↓kO_rt, ↓kF_nx, ↓kF_ct, ↓kF_bk, ↓kF_rt, ↓kE_rt, ↓kE_nx, ↓kIf_t, ↓kIf_f, rdv, tst, itmv, optv, gs, gr, Pf.go, mkV, isFr, noOwn_eq, datOnly_eq, wip, tg_var, put_eq, chg, clr, clr_z, clr_o, clr_d, clr_b, clr_n, io_o, io_d, io_b, io_n, io_z, frzD, permD, SV.d, ls_l, in_i, it_l, it_t, t_b, bo_b, l_lst, l_tup, rev_l, rev_t, Pf.op_add, bi_int, c_lt, c_le, c_gt, c_ge, ev0, List.map_cons, List.map_nil, List.all_cons, List.all_nil, List.replicate, List.length_cons, List.length_nil, List.cons_append, List.nil_append, List.append_nil, List.set, List.getElem?_cons_zero, List.getElem?_cons_succ, Nat.reduceAdd, Nat.reduceSub, decide_eq_true_eq, ne_eq, if_true, if_false, Bool.false_eq_true, true_and, and_true, Option.map, ite_self, oz_c, oz_i, c_eqI, Option.getD_some, Option.getD_none, List.foldl, Bool.and_true, Bool.and_self, Bool.not_true, Bool.not_false, Fc_21_14, c_ne, k_l, Bx.gd h1, shaped_nil, eqv_nil, kIf_n]
    have T2 := lot_t2 ns size mm h5 hmm found h1 (by omega) d o5 o6 o7 o9 o11 o12
    refine ⟨sz0 _ (by omega), kIf_of (fun he => ?_) fun he => ⟨by omega, fun r1 _ => kIf_of (fun _ => ?_) fun _ => ?_⟩⟩
    · simp only [he, kIf_t]
      exact T2 _ fun e o5 o6 o7 o9 o11 o12 he => ⟨found ++ [e], some d, o5, o6, o7, o9, o11, o12, rfl, app e he, by rw [List.length_append, List.length_singleton]; omega⟩
    · refine ⟨?_, pick_of rfl fun e he => ⟨sz1 _ (by omega), found ++ [e], some d, o5, o6, o7, o9, o11, o12, rfl, app e (h1 e he), by rw [List.length_append, List.length_singleton]; omega⟩⟩
      have : 0 < found.length := by cases found with
        | nil => cases he
        | cons => simp
      omega
    · exact T2 _ fun e o5 o6 o7 o9 o11 o12 he => ⟨found ++ [e], some d, o5, o6, o7, o9, o11, o12, rfl, app e he, by rw [List.length_append, List.length_singleton]; omega⟩
  · rintro ρ ⟨found, o4, o5, o6, o7, o9, o11, o12, rfl, h1, h2⟩
    simp -implicitDefEqProofs only [↓X_nil, ↓X_cons, ↓X_asg, ↓X_asgO, ↓X_par, ↓X_bor, ↓X_app, ↓X_ext, ↓X_rmv, ↓X_popS, ↓X_appPop, ↓X_augI, ↓X_iff, ↓X_for, ↓X_ret, ↓X_retN, ↓X_cont, ↓X_brk, ↓X_pas, ↓X_expr, ↓X_frz, ↓X_run, ↓E_var, ↓E_cst, ↓E_glob, ↓E_fref, ↓E_nil, ↓E_cons, ↓E_tup, ↓E_lst, ↓E_call, ↓E_callk, ↓E_bi, ↓E_biIf, ↓E_isi, ↓E_bin, ↓E_cmp, ↓E_neg, ↓E_nt, ↓E_and, ↓E_or, ↓E_ifx, ↓E_idx, ↓E_sl, ↓E_rev, ↓E_rng1, ↓E_lrng, ↓E_trng, ↓E_lc, ↓E_upper, ↓E_step, ↓T_var, ↓T_tup, ↓T_nil, ↓T_cons, ↓W_bind, ↓W_ret, ↓W_need, ↓W_draw, ↓W_if', ↓kO_nx, ↓kO_ct, ↓kO_bk, ↓kO_rt, ↓kF_nx, ↓kF_ct, ↓kF_bk, ↓kF_rt, ↓kE_rt, ↓kE_nx, ↓kIf_t, ↓kIf_f, rdv, tst, itmv, optv, gs, gr, Pf.go, mkV, isFr, noOwn_eq, datOnly_eq, wip, tg_var, put_eq, chg, clr, clr_z, clr_o, clr_d, clr_b, clr_n, io_o, io_d, io_b, io_n, io_z, frzD, permD, SV.d, ls_l, in_i, it_l, it_t, t_b, bo_b, l_lst, l_tup, rev_l, rev_t, Pf.op_add, bi_int, c_lt, c_le, c_gt, c_ge, ev0, List.map_cons, List.map_nil, List.all_cons, List.all_nil, List.replicate, List.length_cons, List.length_nil, List.cons_append, List.nil_append, List.append_nil, List.set, List.getElem?_cons_zero, List.getElem?_cons_succ, Nat.reduceAdd, Nat.reduceSub, decide_eq_true_eq, ne_eq, if_true, if_false, Bool.false_eq_true, true_and, and_true, Option.map, ite_self, oz_c, oz_i, c_eqI, Option.getD_some, Option.getD_none, List.foldl, Bool.and_true, Bool.and_self, Bool.not_true, Bool.not_false, Fc_21_14, c_eqI]
    refine ⟨by omega, fun r _ => kIf_of (fun _ => ?_) fun _ => ?_⟩
    · exact ⟨found.reverse, rfl, fun e he => h1 e (List.mem_reverse.mp he), by rw [List.length_reverse]; exact h2⟩
    · exact ⟨found, rfl, h1, h2⟩
end K01
namespace Pf
open PySem
theorem nat_asc (m : Nat) : ∀ ch ∈ (Nat.repr m).toList, ch.toNat < 128 := by
  intro ch h
  have h : ch ∈ Nat.toDigits 10 m := by simpa [Nat.repr] using h
  have := Nat.isDigit_of_mem_toDigits (by decide) (by decide) h
  simp only [Char.isDigit, Bool.and_eq_true, decide_eq_true_eq] at this
  have h2 := this.2
  have : ch.val.toNat ≤ 57 := by simpa using UInt32.le_iff_toNat_le.mp h2
  exact Nat.lt_of_le_of_lt this (by decide)
theorem int_asc (i : Int) : ∀ c ∈ (Str.ofString (toString i)).cps.toList, c < 128 := by
  rw [Str.ofString_eq_toList]
  intro c hc
  have hc : c ∈ (toString i).toList.map Char.toNat := by simpa using hc
  obtain ⟨ch, h, rfl⟩ := List.mem_map.mp hc
  cases i with
  | ofNat m => exact nat_asc m ch h
  | negSucc m =>
    have e : toString (Int.negSucc m) = "-" ++ Nat.repr (m + 1) := rfl
    rw [e, String.toList_append] at h
    rcases List.mem_append.mp h with h | h
    · have : ch = '-' := by simpa using h
      subst this; decide
    · exact nat_asc _ ch h
theorem sl_t (ds : List D) (lo hi : Option Int) : sl2 (.tuple ds) lo hi = .ret (.tuple (cutD ds lo hi)) := rfl
theorem sl_s (a : Str) (lo hi : Option Int) : sl2 (.str a) lo hi = need (decide (a.length ≤ sizeLine)) (.ret (.str ⟨((a.cps.toList.drop (slE a.length 0 lo)).take (slE a.length a.length hi - slE a.length 0 lo)).toArray⟩)) := rfl
theorem ix_inT {ds : List D} {i : Nat} {x : D} (h : ds[i]? = some x) : idx2 (.tuple ds) (.int (i : Int)) = .ret x := by
  have hi : i < ds.length := (List.getElem?_eq_some_iff.mp h).1
  have e : (ixAt ds.length (i : Int)).bind (ds[·]?) = some x := by
    have : ixAt ds.length (i : Int) = some i := by
      unfold ixAt L2.ixN
      simp [hi]
      try omega
    rw [this]
    exact h
  unfold idx2
  simp only [e]
theorem ad_t (a b : List D) : op2 .add (.tuple a) (.tuple b) = need (decide (a.length + b.length ≤ sizeLine)) (.ret (.tuple (a ++ b))) := rfl
theorem ad_L (a b : List D) : op2 .add (.list a) (.list b) = need (decide (a.length + b.length ≤ sizeLine)) (.ret (.list (a ++ b))) := rfl
theorem ad_s (a b : Str) : op2 .add (.str a) (.str b) = need (decide (a.length + b.length ≤ sizeLine)) (.ret (.str (a ++ b))) := rfl
theorem ad_b (a : Bool) (b : Int) : op2 .add (.bool a) (.int b) = .ret (.int ((if a = true then 1 else 0) + b)) := rfl
theorem sb_i (a b : Int) : op2 .sub (.int a) (.int b) = .ret (.int (a - b)) := rfl
theorem sb_b (a : Bool) (b : Int) : op2 .sub (.bool a) (.int b) = .ret (.int ((if a = true then 1 else 0) - b)) := rfl
theorem sb_ib (a : Int) (b : Bool) : op2 .sub (.int a) (.bool b) = .ret (.int (a - if b = true then 1 else 0)) := rfl
theorem ls_t (ds : List D) : bi1 .lst (.tuple ds) = .ret (.list ds) := rfl
theorem st_i (a : Int) : bi1 .str (.int a) = need (decide (a.natAbs.log2 < 1920)) (.ret (.str (toString a))) := rfl
theorem st_b (a : Bool) : bi1 .str (.bool a) = .ret (.str (if a = true then "True" else "False")) := rfl
theorem up_s (a : Str) : upM (.str a) = need (decide (a.length ≤ 5592405)) (.ret (.str (Txt.upper a))) := rfl
theorem c_eqB (a : Bool) (b : Int) : cmp2 .eq (.bool a) (.int b) = .ret (.bool (PyData.eqv (.bool a) (.int b))) := by
  rw [c_eq]
  exact need_of rfl
theorem ne_t {ds : List D} (h : SeqAt.shaped (.tuple ds) = true) : cmp2 .ne (.tuple ds) (.tuple []) = .ret (.bool !ds.isEmpty) := by
  rw [c_ne, k_rt, h, show SeqAt.shaped (.tuple []) = true by decide]
  cases ds with
  | nil => rfl
  | cons x r => simp [PyData.eqv, PyData.eqvAll, need]
theorem cut_to {ds : List D} {r : Nat} (h : r < ds.length) : cutD ds none (some (r : Int)) = ds.take r := by
  unfold cutD slE
  rw [HT.sIx_none, HT.sIx_nat, List.drop_zero, Nat.sub_zero, Nat.min_eq_left (Nat.le_of_lt h)]
theorem cut_from {ds : List D} {r : Nat} (h : r < ds.length) : cutD ds (some ((r : Int) + 1)) none = ds.drop (r + 1) := by
  unfold cutD slE
  rw [HT.sIx_none, show ((r : Int) + 1) = ((r + 1 : Nat) : Int) by omega, HT.sIx_nat, Nat.min_eq_left h]
  exact List.take_of_length_le (by rw [List.length_drop]; exact Nat.le_refl _)
theorem szA_at {ds : List D} {r : Nat} (h : r < ds.length) : szA ds = szA (ds.take r) + sz ds[r] + szA (ds.drop (r + 1)) := by
  rw [szA_split ds r, List.drop_eq_getElem_cons h]
  simp only [szA]
  omega
/-- ascii texts -/
def As (x : Str) : Prop := ∀ c ∈ x.cps.toList, c < 128
theorem Ta.as {I n s : Nat} {x : Str} (h : Ta I n s (.str x)) : As x ∧ x.cps.toList.length + 1 ≤ s := by
  have h1 := h.lf; have h3 := h.sz
  simp only [Pf.lf, List.all_eq_true, decide_eq_true_eq, Pf.sz] at h1 h3
  exact ⟨h1, h3⟩
theorem As.ta {I n s : Nat} {x : Str} (h : As x) (hs : x.cps.toList.length + 1 ≤ s) : Ta I n s (.str x) := by
  refine ⟨?_, ?_, ?_⟩
  · simp only [Pf.lf, List.all_eq_true, decide_eq_true_eq]; exact h
  · simp only [PyData.depth]; omega
  · simp only [Pf.sz]; exact hs
theorem As.app {x y : Str} (h : As x) (h' : As y) : As (x ++ y) := fun c hc => by
  have hc : c ∈ (x.cps ++ y.cps).toList := hc
  rw [Array.toList_append] at hc
  rcases List.mem_append.mp hc with q | q
  · exact h c q
  · exact h' c q
theorem app_len (x y : Str) : (x ++ y).cps.toList.length = x.cps.toList.length + y.cps.toList.length := by
  show (x.cps ++ y.cps).toList.length = _
  rw [Array.toList_append, List.length_append]
theorem As.up {x : Str} (h : As x) : As (Txt.upper x) ∧ (Txt.upper x).cps.toList.length = x.cps.toList.length := by
  rw [PyProof.Rows.upper_ascii h]
  refine ⟨fun c hc => ?_, by simp⟩
  simp only [Array.toList_map, List.mem_map] at hc
  obtain ⟨d, hd, rfl⟩ := hc
  have := h d hd
  unfold PyProof.Rows.up1
  split <;> omega
theorem Ta.i {I n s : Nat} {i : Int} (h : i.natAbs ≤ I) (hs : 1 ≤ s) : Ta I n s (.int i) := ⟨by simp only [Pf.lf, decide_eq_true_eq]; exact h, by simp only [PyData.depth]; omega, by simp only [Pf.sz]; exact hs⟩
theorem Ta.b {I n s : Nat} {i : Bool} (hs : 1 ≤ s) : Ta I n s (.bool i) := ⟨by simp only [Pf.lf], by simp only [PyData.depth]; omega, by simp only [Pf.sz]; exact hs⟩
theorem Ta.no {I n s : Nat} (hs : 1 ≤ s) : Ta I n s .none := ⟨by simp only [Pf.lf], by simp only [PyData.depth]; omega, by simp only [Pf.sz]; exact hs⟩
theorem Ta.pos {I n s : Nat} {d : D} (h : Ta I n s d) : 1 ≤ s := by
  refine Nat.le_trans ?_ h.sz
  cases d <;> simp only [Pf.sz] <;> omega
end Pf
namespace K01
open PySem PySem.Spec PyProof.Rows L2 Pf
theorem it_ne (F : Nat → List D → M D) {i n m fu : Nat} {b : Sx} {j : Nat} (h : j ≠ i) : ∀ k, itF F i n m fu b k j = F j
  | 0 => rfl
  | k + 1 => by
    show updF (itF F i n m fu b k) i _ j = F j
    unfold updF
    rw [if_neg h]
    exact it_ne F h k
theorem odd_ta : ∀ d ∈ oddL, Ta 9 2 20 d := by
  intro d hd
  simp only [oddL, List.mem_cons, List.mem_nil_iff, or_false] at hd
  rcases hd with rfl | rfl | rfl | rfl | rfl | rfl | rfl | rfl | rfl | rfl | rfl | rfl | rfl | rfl | rfl | rfl <;>
    exact ⟨by decide +kernel, by simp [PyData.depth, PyData.depthAll], by decide +kernel⟩
section
variable {G : Nat → List D → M D} {ns : List Int} {I n s : Nat} {om : M D} (g14 : G 14 = drawM) (g23 : G 23 [feedD ns] = om) (hom : WP om fun d => d ∈ oddL) (hI : 9 ≤ I) (hI' : I ≤ 1020) (hs : s ≤ 10000) (hn : n ≤ 30)
include g14 g23 hom hI hI' hs hn
theorem bent_odd : WP om (Ta (I + 1) (n + 2) (2 * s + 20)) := hom.mono fun d hd => (odd_ta d hd).mono (by omega) (by omega) (by omega)
theorem bent_none (h : Ta I n s .none) : WP (runD fu 5 G b_law_bent [feedD ns, .none]) (Ta (I + 1) (n + 2) (2 * s + 20)) := by
  have O := bent_odd g14 g23 hom hI hI' hs hn
  unfold b_law_bent
  simp -implicitDefEqProofs only [↓X_nil, ↓X_cons, ↓X_asg, ↓X_asgO, ↓X_par, ↓X_bor, ↓X_app, ↓X_ext, ↓X_rmv, ↓X_popS, ↓X_appPop, ↓X_augI, ↓X_iff, ↓X_for, ↓X_ret, ↓X_retN, ↓X_cont, ↓X_brk, ↓X_pas, ↓X_expr, ↓X_frz, ↓X_run, ↓E_var, ↓E_cst, ↓E_glob, ↓E_fref, ↓E_nil, ↓E_cons, ↓E_tup, ↓E_lst, ↓E_call, ↓E_callk, ↓E_bi, ↓E_biIf, ↓E_isi, ↓E_bin, ↓E_cmp, ↓E_neg, ↓E_nt, ↓E_and, ↓E_or, ↓E_ifx, ↓E_idx, ↓E_sl, ↓E_rev, ↓E_rng1, ↓E_lrng, ↓E_trng, ↓E_lc, ↓E_upper, ↓E_step, ↓T_var, ↓T_tup, ↓T_nil, ↓T_cons, ↓W_bind, ↓W_ret, ↓W_need, ↓W_draw, ↓W_if', ↓kO_nx, ↓kO_ct, ↓kO_bk, ↓kO_rt, ↓kF_nx, ↓kF_ct, ↓kF_bk, ↓kF_rt, ↓kE_rt, ↓kE_nx, ↓kIf_t, ↓kIf_f, rdv, tst, itmv, optv, gs, gr, Pf.go, mkV, isFr, noOwn_eq, datOnly_eq, wip, tg_var, put_eq, chg, clr, clr_z, clr_o, clr_d, clr_b, clr_n, io_o, io_d, io_b, io_n, io_z, frzD, permD, SV.d, ls_l, in_i, it_l, it_t, t_b, bo_b, l_lst, l_tup, rev_l, rev_t, Pf.op_add, bi_int, c_lt, c_le, c_gt, c_ge, ev0, List.map_cons, List.map_nil, List.all_cons, List.all_nil, List.replicate, List.length_cons, List.length_nil, List.cons_append, List.nil_append, List.append_nil, List.set, List.getElem?_cons_zero, List.getElem?_cons_succ, Nat.reduceAdd, Nat.reduceSub, decide_eq_true_eq, ne_eq, if_true, if_false, Bool.false_eq_true, true_and, and_true, Option.map, ite_self, oz_c, oz_i, c_eqI, Option.getD_some, Option.getD_none, List.foldl, Bool.and_true, Bool.and_self, Bool.not_true, Bool.not_false, isTy, plainD, g14, g23]
  exact ⟨by omega, fun r _ => O⟩
theorem bent_list (ds : List D) (h : Ta I n s (.list ds)) : WP (runD fu 5 G b_law_bent [feedD ns, .list ds]) (Ta (I + 1) (n + 2) (2 * s + 20)) := by
  have O := bent_odd g14 g23 hom hI hI' hs hn
  unfold b_law_bent
  simp -implicitDefEqProofs only [↓X_nil, ↓X_cons, ↓X_asg, ↓X_asgO, ↓X_par, ↓X_bor, ↓X_app, ↓X_ext, ↓X_rmv, ↓X_popS, ↓X_appPop, ↓X_augI, ↓X_iff, ↓X_for, ↓X_ret, ↓X_retN, ↓X_cont, ↓X_brk, ↓X_pas, ↓X_expr, ↓X_frz, ↓X_run, ↓E_var, ↓E_cst, ↓E_glob, ↓E_fref, ↓E_nil, ↓E_cons, ↓E_tup, ↓E_lst, ↓E_call, ↓E_callk, ↓E_bi, ↓E_biIf, ↓E_isi, ↓E_bin, ↓E_cmp, ↓E_neg, ↓E_nt, ↓E_and, ↓E_or, ↓E_ifx, ↓E_idx, ↓E_sl, ↓E_rev, ↓E_rng1, ↓E_lrng, ↓E_trng, ↓E_lc, ↓E_upper, ↓E_step, ↓T_var, ↓T_tup, ↓T_nil, ↓T_cons, ↓W_bind, ↓W_ret, ↓W_need, ↓W_draw, ↓W_if', ↓kO_nx, ↓kO_ct, ↓kO_bk, ↓kO_rt, ↓kF_nx, ↓kF_ct, ↓kF_bk, ↓kF_rt, ↓kE_rt, ↓kE_nx, ↓kIf_t, ↓kIf_f, rdv, tst, itmv, optv, gs, gr, Pf.go, mkV, isFr, noOwn_eq, datOnly_eq, wip, tg_var, put_eq, chg, clr, clr_z, clr_o, clr_d, clr_b, clr_n, io_o, io_d, io_b, io_n, io_z, frzD, permD, SV.d, ls_l, in_i, it_l, it_t, t_b, bo_b, l_lst, l_tup, rev_l, rev_t, Pf.op_add, bi_int, c_lt, c_le, c_gt, c_ge, ev0, List.map_cons, List.map_nil, List.all_cons, List.all_nil, List.replicate, List.length_cons, List.length_nil, List.cons_append, List.nil_append, List.append_nil, List.set, List.getElem?_cons_zero, List.getElem?_cons_succ, Nat.reduceAdd, Nat.reduceSub, decide_eq_true_eq, ne_eq, if_true, if_false, Bool.false_eq_true, true_and, and_true, Option.map, ite_self, oz_c, oz_i, c_eqI, Option.getD_some, Option.getD_none, List.foldl, Bool.and_true, Bool.and_self, Bool.not_true, Bool.not_false, isTy, plainD, g14, g23]
  exact ⟨by omega, fun r _ => O⟩
theorem bent_int (i : Int) (h : Ta I n s (.int i)) : WP (runD fu 5 G b_law_bent [feedD ns, .int i]) (Ta (I + 1) (n + 2) (2 * s + 20)) := by
  have O := bent_odd g14 g23 hom hI hI' hs hn
  have h1 := h.lf
  have hp := h.pos
  simp only [Pf.lf, decide_eq_true_eq] at h1
  unfold b_law_bent
  simp -implicitDefEqProofs only [↓X_nil, ↓X_cons, ↓X_asg, ↓X_asgO, ↓X_par, ↓X_bor, ↓X_app, ↓X_ext, ↓X_rmv, ↓X_popS, ↓X_appPop, ↓X_augI, ↓X_iff, ↓X_for, ↓X_ret, ↓X_retN, ↓X_cont, ↓X_brk, ↓X_pas, ↓X_expr, ↓X_frz, ↓X_run, ↓E_var, ↓E_cst, ↓E_glob, ↓E_fref, ↓E_nil, ↓E_cons, ↓E_tup, ↓E_lst, ↓E_call, ↓E_callk, ↓E_bi, ↓E_biIf, ↓E_isi, ↓E_bin, ↓E_cmp, ↓E_neg, ↓E_nt, ↓E_and, ↓E_or, ↓E_ifx, ↓E_idx, ↓E_sl, ↓E_rev, ↓E_rng1, ↓E_lrng, ↓E_trng, ↓E_lc, ↓E_upper, ↓E_step, ↓T_var, ↓T_tup, ↓T_nil, ↓T_cons, ↓W_bind, ↓W_ret, ↓W_need, ↓W_draw, ↓W_if', ↓kO_nx, ↓kO_ct, ↓kO_bk, ↓kO_rt, ↓kF_nx, ↓kF_ct, ↓kF_bk, ↓kF_rt, ↓kE_rt, ↓kE_nx, ↓kIf_t, ↓kIf_f, rdv, tst, itmv, optv, gs, gr, Pf.go, mkV, isFr, noOwn_eq, datOnly_eq, wip, tg_var, put_eq, chg, clr, clr_z, clr_o, clr_d, clr_b, clr_n, io_o, io_d, io_b, io_n, io_z, frzD, permD, SV.d, ls_l, in_i, it_l, it_t, t_b, bo_b, l_lst, l_tup, rev_l, rev_t, Pf.op_add, bi_int, c_lt, c_le, c_gt, c_ge, ev0, List.map_cons, List.map_nil, List.all_cons, List.all_nil, List.replicate, List.length_cons, List.length_nil, List.cons_append, List.nil_append, List.append_nil, List.set, List.getElem?_cons_zero, List.getElem?_cons_succ, Nat.reduceAdd, Nat.reduceSub, decide_eq_true_eq, ne_eq, if_true, if_false, Bool.false_eq_true, true_and, and_true, Option.map, ite_self, oz_c, oz_i, c_eqI, Option.getD_some, Option.getD_none, List.foldl, Bool.and_true, Bool.and_self, Bool.not_true, Bool.not_false, isTy, plainD, g14, g23, st_i, sb_i]
  refine ⟨by omega, fun r hr => kIf_of (fun hr6 => ?_) fun _ => O⟩
  refine ⟨log_lt (Nat.le_trans h1 (Nat.le_trans hI' (by decide +kernel))), sz0 _ (by omega), sz0 _ (by omega), pick_of rfl (fun d hd => ?_) r (of_decide_eq_true hr6)⟩
  simp only [List.mem_cons, List.mem_nil_iff, or_false] at hd
  rcases hd with rfl | rfl | rfl | rfl | rfl | rfl
  · exact Ta.i (by omega) (by omega)
  · exact Ta.i (by omega) (by omega)
  · exact Ta.b (by omega)
  · refine As.ta (int_asc i) ?_
    have e := int_text_length_le10 (a := i) (k := 4) (by decide) (by omega)
    have e2 := PySem.ofString_length (toString i)
    have e3 : (Str.ofString (toString i)).cps.toList.length = (Str.ofString (toString i)).length := by simp [Str.length]
    omega
  · exact Ta.i (by omega) (by omega)
  · exact ((TaL.one (h.mono (Nat.le_succ I) (Nat.le_refl n) (Nat.le_refl s))).lst).mono (by omega) (by omega) (by omega)
theorem bent_bool (i : Bool) (h : Ta I n s (.bool i)) : WP (runD fu 5 G b_law_bent [feedD ns, .bool i]) (Ta (I + 1) (n + 2) (2 * s + 20)) := by
  have O := bent_odd g14 g23 hom hI hI' hs hn
  have hp := h.pos
  unfold b_law_bent
  simp -implicitDefEqProofs only [↓X_nil, ↓X_cons, ↓X_asg, ↓X_asgO, ↓X_par, ↓X_bor, ↓X_app, ↓X_ext, ↓X_rmv, ↓X_popS, ↓X_appPop, ↓X_augI, ↓X_iff, ↓X_for, ↓X_ret, ↓X_retN, ↓X_cont, ↓X_brk, ↓X_pas, ↓X_expr, ↓X_frz, ↓X_run, ↓E_var, ↓E_cst, ↓E_glob, ↓E_fref, ↓E_nil, ↓E_cons, ↓E_tup, ↓E_lst, ↓E_call, ↓E_callk, ↓E_bi, ↓E_biIf, ↓E_isi, ↓E_bin, ↓E_cmp, ↓E_neg, ↓E_nt, ↓E_and, ↓E_or, ↓E_ifx, ↓E_idx, ↓E_sl, ↓E_rev, ↓E_rng1, ↓E_lrng, ↓E_trng, ↓E_lc, ↓E_upper, ↓E_step, ↓T_var, ↓T_tup, ↓T_nil, ↓T_cons, ↓W_bind, ↓W_ret, ↓W_need, ↓W_draw, ↓W_if', ↓kO_nx, ↓kO_ct, ↓kO_bk, ↓kO_rt, ↓kF_nx, ↓kF_ct, ↓kF_bk, ↓kF_rt, ↓kE_rt, ↓kE_nx, ↓kIf_t, ↓kIf_f, rdv, tst, itmv, optv, gs, gr, Pf.go, mkV, isFr, noOwn_eq, datOnly_eq, wip, tg_var, put_eq, chg, clr, clr_z, clr_o, clr_d, clr_b, clr_n, io_o, io_d, io_b, io_n, io_z, frzD, permD, SV.d, ls_l, in_i, it_l, it_t, t_b, bo_b, l_lst, l_tup, rev_l, rev_t, Pf.op_add, bi_int, c_lt, c_le, c_gt, c_ge, ev0, List.map_cons, List.map_nil, List.all_cons, List.all_nil, List.replicate, List.length_cons, List.length_nil, List.cons_append, List.nil_append, List.append_nil, List.set, List.getElem?_cons_zero, List.getElem?_cons_succ, Nat.reduceAdd, Nat.reduceSub, decide_eq_true_eq, ne_eq, if_true, if_false, Bool.false_eq_true, true_and, and_true, Option.map, ite_self, oz_c, oz_i, c_eqI, Option.getD_some, Option.getD_none, List.foldl, Bool.and_true, Bool.and_self, Bool.not_true, Bool.not_false, isTy, plainD, g14, g23, st_b, sb_i, ad_b, sb_b, sb_ib, c_eqB]
  refine ⟨by omega, fun r hr => kIf_of (fun hr6 => ?_) fun _ => O⟩
  refine ⟨sz0 _ (by omega), sz0 _ (by omega), pick_of rfl (fun d hd => ?_) r (of_decide_eq_true hr6)⟩
  simp only [List.mem_cons, List.mem_nil_iff, or_false] at hd
  rcases hd with rfl | rfl | rfl | rfl | rfl | rfl
  · exact Ta.i (by split <;> omega) (by omega)
  · exact Ta.i (by split <;> omega) (by omega)
  · exact Ta.b (by omega)
  · cases i
    · exact As.ta (by unfold As; decide +kernel) (Nat.le_trans (by decide +kernel : _ ≤ 20) (by omega))
    · exact As.ta (by unfold As; decide +kernel) (Nat.le_trans (by decide +kernel : _ ≤ 20) (by omega))
  · exact Ta.i (by split <;> omega) (by omega)
  · exact ((TaL.one (h.mono (Nat.le_succ I) (Nat.le_refl n) (Nat.le_refl s))).lst).mono (by omega) (by omega) (by omega)
theorem bent_str (x : Str) (h : Ta I n s (.str x)) : WP (runD fu 5 G b_law_bent [feedD ns, .str x]) (Ta (I + 1) (n + 2) (2 * s + 20)) := by
  have O := bent_odd g14 g23 hom hI hI' hs hn
  have hp := h.pos
  obtain ⟨ha, hl⟩ := h.as
  have hlx : x.length = x.cps.toList.length := by simp [Str.length]
  have l1 : (Str.ofString "a").length = 1 := by decide +kernel
  have l2 : (Str.ofString " ").length = 1 := by decide +kernel
  have l3 : (Str.ofString "abcdefgh").length = 8 := by decide +kernel
  have k1 : (Str.ofString "a").cps.toList.length = 1 := by decide +kernel
  have k2 : (Str.ofString " ").cps.toList.length = 1 := by decide +kernel
  have k3 : (Str.ofString "abcdefgh").cps.toList.length = 8 := by decide +kernel
  unfold b_law_bent
  simp -implicitDefEqProofs only [↓X_nil, ↓X_cons, ↓X_asg, ↓X_asgO, ↓X_par, ↓X_bor, ↓X_app, ↓X_ext, ↓X_rmv, ↓X_popS, ↓X_appPop, ↓X_augI, ↓X_iff, ↓X_for, ↓X_ret, ↓X_retN, ↓X_cont, ↓X_brk, ↓X_pas, ↓X_expr, ↓X_frz, ↓X_run, ↓E_var, ↓E_cst, ↓E_glob, ↓E_fref, ↓E_nil, ↓E_cons, ↓E_tup, ↓E_lst, ↓E_call, ↓E_callk, ↓E_bi, ↓E_biIf, ↓E_isi, ↓E_bin, ↓E_cmp, ↓E_neg, ↓E_nt, ↓E_and, ↓E_or, ↓E_ifx, ↓E_idx, ↓E_sl, ↓E_rev, ↓E_rng1, ↓E_lrng, ↓E_trng, ↓E_lc, ↓E_upper, ↓E_step, ↓T_var, ↓T_tup, ↓T_nil, ↓T_cons, ↓W_bind, ↓W_ret, ↓W_need, ↓W_draw, ↓W_if', ↓kO_nx, ↓kO_ct, ↓kO_bk, ↓kO_rt, ↓kF_nx, ↓kF_ct, ↓kF_bk, ↓kF_rt, ↓kE_rt, ↓kE_nx, ↓kIf_t, ↓kIf_f, rdv, tst, itmv, optv, gs, gr, Pf.go, mkV, isFr, noOwn_eq, datOnly_eq, wip, tg_var, put_eq, chg, clr, clr_z, clr_o, clr_d, clr_b, clr_n, io_o, io_d, io_b, io_n, io_z, frzD, permD, SV.d, ls_l, in_i, it_l, it_t, t_b, bo_b, l_lst, l_tup, rev_l, rev_t, Pf.op_add, bi_int, c_lt, c_le, c_gt, c_ge, ev0, List.map_cons, List.map_nil, List.all_cons, List.all_nil, List.replicate, List.length_cons, List.length_nil, List.cons_append, List.nil_append, List.append_nil, List.set, List.getElem?_cons_zero, List.getElem?_cons_succ, Nat.reduceAdd, Nat.reduceSub, decide_eq_true_eq, ne_eq, if_true, if_false, Bool.false_eq_true, true_and, and_true, Option.map, ite_self, oz_c, oz_i, c_eqI, Option.getD_some, Option.getD_none, List.foldl, Bool.and_true, Bool.and_self, Bool.not_true, Bool.not_false, isTy, plainD, g14, g23, ad_s, sl_s, up_s]
  refine ⟨by omega, fun r hr => kIf_of (fun hr6 => ?_) fun _ => O⟩
  refine ⟨sz0 _ (by omega), sz0 _ (by omega), by omega, sz0 _ (by omega), sz0 _ (by omega), sz0 _ (by omega), sz0 _ (by omega), pick_of rfl (fun d hd => ?_) r (of_decide_eq_true hr6)⟩
  simp only [List.mem_cons, List.mem_nil_iff, or_false] at hd
  rcases hd with rfl | rfl | rfl | rfl | rfl | rfl
  · exact As.ta (ha.app (by unfold As; decide +kernel)) (by rw [app_len]; omega)
  · refine As.ta (fun c hc => ha c (List.mem_of_mem_drop (List.mem_of_mem_take hc))) ?_
    have := List.length_take_le (slE x.length x.length (some (-1)) - slE x.length 0 none) (x.cps.toList.drop (slE x.length 0 none))
    have h2 := List.length_drop (i := slE x.length 0 none) (l := x.cps.toList)
    show (List.take _ (List.drop _ x.cps.toList)).length + 1 ≤ _
    rw [List.length_take, List.length_drop]
    omega
  · exact As.ta ha.up.1 (by rw [ha.up.2]; omega)
  · exact As.ta (ha.app (by unfold As; decide +kernel)) (by rw [app_len]; omega)
  · exact ((TaL.one (h.mono (Nat.le_succ I) (Nat.le_refl n) (Nat.le_refl s))).lst).mono (by omega) (by omega) (by omega)
  · exact As.ta (ha.app (by unfold As; decide +kernel)) (by rw [app_len]; omega)
theorem bent_tup (ds : List D) (h : Ta I n s (.tuple ds)) (rc : ∀ d ∈ ds, ∀ n s, Ta I n s d → n ≤ 30 → s ≤ 10000 → WP (G 24 [feedD ns, d]) (Ta (I + 1) (n + 2) (2 * s + 20))) : WP (runD fu 5 G b_law_bent [feedD ns, .tuple ds]) (Ta (I + 1) (n + 2) (2 * s + 20)) := by
  have O := bent_odd g14 g23 hom hI hI' hs hn
  have hp := h.pos
  have hL := h.tupL
  have hlen := hL.len
  have hd0 : 1 ≤ n := by have := h.dep; simp only [PyData.depth] at this; omega
  have way : ∀ r : Nat, (r : Int) < 7 → WP (idx2 (.list ([.list ds, .tuple (cutD ds (some 1) none), .tuple (cutD ds none (some (-1))), .tuple (ds ++ cutD ds (some (-1)) none)] ++ [.tuple ds.reverse, .tuple [.tuple ds], .tuple (ds ++ [.none])])) (.int r)) (Ta (I + 1) (n + 2) (2 * s + 20)) := by
    refine pick_of rfl fun d hd => ?_
    simp only [List.cons_append, List.nil_append, List.mem_cons, List.mem_nil_iff, or_false] at hd
    rcases hd with rfl | rfl | rfl | rfl | rfl | rfl | rfl
    · exact hL.lst.mono (by omega) (by omega) (by omega)
    · exact (hL.cut _ _).tup.mono (by omega) (by omega) (by omega)
    · exact (hL.cut _ _).tup.mono (by omega) (by omega) (by omega)
    · exact (hL.app (hL.cut _ _) (Nat.le_refl _) (Nat.le_refl _)).tup.mono (by omega) (by omega) (by omega)
    · exact hL.rev.tup.mono (by omega) (by omega) (by omega)
    · exact (TaL.one h).tup.mono (by omega) (by omega) (by omega)
    · exact (hL.app (TaL.one (Ta.no (I := I) (n := n - 1) (s := 1) (Nat.le_refl 1))) (Nat.le_refl _) (Nat.le_refl _)).tup.mono (by omega) (by omega) (by omega)
  have cl : (cutD ds (some (-1)) none).length ≤ s := Nat.le_trans (hL.cut _ _).len (by omega)
  unfold b_law_bent
  simp -implicitDefEqProofs only [↓X_nil, ↓X_cons, ↓X_asg, ↓X_asgO, ↓X_par, ↓X_bor, ↓X_app, ↓X_ext, ↓X_rmv, ↓X_popS, ↓X_appPop, ↓X_augI, ↓X_iff, ↓X_for, ↓X_ret, ↓X_retN, ↓X_cont, ↓X_brk, ↓X_pas, ↓X_expr, ↓X_frz, ↓X_run, ↓E_var, ↓E_cst, ↓E_glob, ↓E_fref, ↓E_nil, ↓E_cons, ↓E_tup, ↓E_lst, ↓E_call, ↓E_callk, ↓E_bi, ↓E_biIf, ↓E_isi, ↓E_bin, ↓E_cmp, ↓E_neg, ↓E_nt, ↓E_and, ↓E_or, ↓E_ifx, ↓E_idx, ↓E_sl, ↓E_rev, ↓E_rng1, ↓E_lrng, ↓E_trng, ↓E_lc, ↓E_upper, ↓E_step, ↓T_var, ↓T_tup, ↓T_nil, ↓T_cons, ↓W_bind, ↓W_ret, ↓W_need, ↓W_draw, ↓W_if', ↓kO_nx, ↓kO_ct, ↓kO_bk, ↓kO_rt, ↓kF_nx, ↓kF_ct, ↓kF_bk, ↓kF_rt, ↓kE_rt, ↓kE_nx, ↓kIf_t, ↓kIf_f, rdv, tst, itmv, optv, gs, gr, Pf.go, mkV, isFr, noOwn_eq, datOnly_eq, wip, tg_var, put_eq, chg, clr, clr_z, clr_o, clr_d, clr_b, clr_n, io_o, io_d, io_b, io_n, io_z, frzD, permD, SV.d, ls_l, in_i, it_l, it_t, t_b, bo_b, l_lst, l_tup, rev_l, rev_t, Pf.op_add, bi_int, c_lt, c_le, c_gt, c_ge, ev0, List.map_cons, List.map_nil, List.all_cons, List.all_nil, List.replicate, List.length_cons, List.length_nil, List.cons_append, List.nil_append, List.append_nil, List.set, List.getElem?_cons_zero, List.getElem?_cons_succ, Nat.reduceAdd, Nat.reduceSub, decide_eq_true_eq, ne_eq, if_true, if_false, Bool.false_eq_true, true_and, and_true, Option.map, ite_self, oz_c, oz_i, c_eqI, Option.getD_some, Option.getD_none, List.foldl, Bool.and_true, Bool.and_self, Bool.not_true, Bool.not_false, isTy, plainD, g14, g23, ne_t (h.sh (by omega)), ad_t, ad_L, sl_t, ls_t, kIf_n]
  have tail : (0 < (9 : Int) ∧ (9 : Int) < 1073741824) ∧ ∀ r : Nat, (r : Int) < 9 → kIf (decide ((r : Int) < 7)) (ds.length + (cutD ds (some (-1)) none).length ≤ sizeLine ∧ 4 ≤ sizeLine ∧ 1 ≤ sizeLine ∧ 1 ≤ sizeLine ∧ ds.length + 1 ≤ sizeLine ∧ 3 ≤ sizeLine ∧ 4 + 3 ≤ sizeLine ∧ WP (idx2 (.list ([.list ds, .tuple (cutD ds (some 1) none), .tuple (cutD ds none (some (-1))), .tuple (ds ++ cutD ds (some (-1)) none)] ++ [.tuple ds.reverse, .tuple [.tuple ds], .tuple (ds ++ [.none])])) (.int r)) (Ta (I + 1) (n + 2) (2 * s + 20))) (WP om (Ta (I + 1) (n + 2) (2 * s + 20))) :=
    ⟨by omega, fun r hr => kIf_of (fun h7 => ⟨sz0 _ (by omega), sz0 _ (by omega), sz0 _ (by omega), sz0 _ (by omega), sz0 _ (by omega), sz0 _ (by omega), sz0 _ (by omega), way r (of_decide_eq_true h7)⟩) fun _ => O⟩
  have mid : 0 < ds.length → (0 < (ds.length : Int) ∧ (ds.length : Int) < 1073741824) ∧ ∀ r : Nat, (r : Int) < ds.length → WP (idx2 (.tuple ds) (.int r)) fun d => WP (G 24 [feedD ns, d]) fun d => 1 ≤ sizeLine ∧ (cutD ds none (some (r : Int))).length + 1 ≤ sizeLine ∧ (cutD ds none (some (r : Int)) ++ [d]).length + (cutD ds (some ((r : Int) + 1)) none).length ≤ sizeLine ∧ Ta (I + 1) (n + 2) (2 * s + 20) (.tuple (cutD ds none (some (r : Int)) ++ [d] ++ cutD ds (some ((r : Int) + 1)) none)) := fun h0 => by
    refine ⟨by omega, fun r hr => ?_⟩
    have hr' : r < ds.length := by omega
    rw [ix_inT (List.getElem?_eq_getElem hr'), W_ret]
    have hm : ds[r] ∈ ds := List.getElem_mem hr'
    have hsz := szA_at hr'
    have hsz2 := hL.sz
    have ht : Ta I (n - 1) (sz ds[r]) ds[r] := ⟨(hL.el _ hm).1, (hL.el _ hm).2, Nat.le_refl _⟩
    refine (rc _ hm _ _ ht (by omega) (by omega)).mono fun d hd => ?_
    rw [cut_to hr', cut_from hr']
    have t1 : TaL (I + 1) (n + 1) (szA (ds.take r)) (ds.take r) := ⟨fun x hx => ⟨lf_mono (by omega) x (hL.el x (List.mem_of_mem_take hx)).1, Nat.le_trans (hL.el x (List.mem_of_mem_take hx)).2 (by omega)⟩, Nat.le_refl _⟩
    have t2 : TaL (I + 1) (n + 1) (szA (ds.drop (r + 1))) (ds.drop (r + 1)) := ⟨fun x hx => ⟨lf_mono (by omega) x (hL.el x (List.mem_of_mem_drop hx)).1, Nat.le_trans (hL.el x (List.mem_of_mem_drop hx)).2 (by omega)⟩, Nat.le_refl _⟩
    have t3 := (t1.app (TaL.one (hd.mono (Nat.le_refl _) (by omega : n - 1 + 2 ≤ n + 1) (Nat.le_refl _))) (Nat.le_refl _) (Nat.le_refl _)).app t2 (Nat.le_refl _) (Nat.le_refl _)
    have l1 : (ds.take r).length ≤ ds.length := List.length_take_le' _ _
    have l2 : (ds.drop (r + 1)).length ≤ ds.length := by rw [List.length_drop]; omega
    exact ⟨sz0 _ (by omega), sz0 _ (by omega), sz0 _ (by rw [List.length_append, List.length_singleton]; omega), t3.tup.mono (Nat.le_refl _) (by omega) (by omega)⟩
  refine ⟨sz0 _ (by omega), kIf_of (fun he => ?_) fun he => ?_⟩
  · simp only [he, kIf_t]
    exact tail
  · have h0 : 0 < ds.length := by
      cases ds with
      | nil => cases he
      | cons => simp
    exact ⟨by omega, fun r _ => kIf_of (fun _ => mid h0) fun _ => tail⟩
end
theorem wp_bentK (ns : List Int) {I : Nat} (hI : 9 ≤ I) (hI' : I ≤ 1020) : ∀ (k n s : Nat) (d : D), d.depth < k → n ≤ 30 → s ≤ 10000 → Ta I n s d → WP (itF F_23 24 2 5 fu b_law_bent k 24 [feedD ns, d]) (Ta (I + 1) (n + 2) (2 * s + 20))
  | 0, n, s, d, h, _, _, _ => by omega
  | k + 1, n, s, d, h, hn, hs, ht => by
    show WP (updF (itF F_23 24 2 5 fu b_law_bent k) 24 (nFn 2 (runD fu 5 (itF F_23 24 2 5 fu b_law_bent k) b_law_bent)) 24 [feedD ns, d]) _
    unfold updF
    rw [if_pos rfl]
    show WP (runD fu 5 (itF F_23 24 2 5 fu b_law_bent k) b_law_bent [feedD ns, d]) _
    have g14 : itF F_23 24 2 5 fu b_law_bent k 14 = drawM := by rw [it_ne F_23 (by decide) k, Fc_23_14]
    have g23 : itF F_23 24 2 5 fu b_law_bent k 23 [feedD ns] = m_law_odd [feedD ns] := by rw [it_ne F_23 (by decide) k, Fc_23_23]
    have hom : WP (m_law_odd [feedD ns]) fun d => d ∈ oddL := by with_reducible exact wp_odd ns
    have rc := fun x (hx : x.depth < k) => fun n s (hx' : Ta I n s x) (a : n ≤ 30) (b : s ≤ 10000) => wp_bentK ns hI hI' k n s x hx a b hx'
    generalize m_law_odd [feedD ns] = om at g23 hom
    generalize itF F_23 24 2 5 fu b_law_bent k = G at g14 g23 rc ⊢
    cases d with
    | none => exact bent_none g14 g23 hom hI hI' hs hn ht
    | bool b => exact bent_bool g14 g23 hom hI hI' hs hn b ht
    | int i => exact bent_int g14 g23 hom hI hI' hs hn i ht
    | str x => exact bent_str g14 g23 hom hI hI' hs hn x ht
    | list ds => exact bent_list g14 g23 hom hI hI' hs hn ds ht
    | tuple ds =>
      refine bent_tup g14 g23 hom hI hI' hs hn ds ht fun x hx => rc x ?_
      simp only [PyData.depth] at h
      have := dep_mem x hx
      omega
    | dict kvs => have := ht.lf; simp only [Pf.lf] at this; cases this
theorem wp_lotE (ns : List Int) (size mm : Nat) (h5 : 5 ≤ mm) (hmm : mm ≤ 1000) (hs : size < 1000) : ∃ m, m_law_lot [feedD ns, .int size, .int mm] = m ∧ WP m fun d => ∃ ds, d = .tuple ds ∧ (∀ e ∈ ds, Bx mm e) ∧ ds.length = size := by
  refine ⟨_, rfl, ?_⟩
  with_reducible exact wp_lot ns size mm h5 hmm hs
theorem wp_gripE (ns : List Int) (many most : Nat) (h : most ≤ many) (hm : many ≤ 1000) : ∃ m, m_law_grip [feedD ns, .int many, .int most] = m ∧ WP m fun d => ∃ ds, d = .tuple ds ∧ Nums many ds ∧ ds.length ≤ most := by
  refine ⟨_, rfl, ?_⟩
  with_reducible exact wp_grip ns many most h hm
end K01
namespace K01
open PySem PySem.Spec PyProof.Rows L2 Pf
def valsL : List D := match m_law_values [] with
  | .ret (.list l) => l
  | _ => []
def isR : M D → Bool
  | .ret (.list _) => true
  | _ => false
theorem isR_v : isR (m_law_values []) = true := by decide +kernel
theorem vals_eq : m_law_values [] = .ret (.list valsL) := by
  have h := isR_v
  unfold valsL
  generalize m_law_values [] = m at h ⊢
  match m, h with
  | .ret (.list l), _ => rfl
def okV (l : List D) : Bool := lfA (10 ^ 59) l && decide (PyData.depthAll l ≤ 10) && decide (PyData.weightAll l ≤ 40000) && decide (l.length ≤ 1000)
theorem ok_v : ∀ r : Nat, r < 3 → okV (stepD valsL r 3) = true := by
  intro r hr
  match r, hr with
  | 0, _ => decide +kernel
  | 1, _ => decide +kernel
  | 2, _ => decide +kernel
end K01
namespace Pf
open PySem
theorem wtA_app (a b : List D) : PyData.weightAll (a ++ b) = PyData.weightAll a + PyData.weightAll b := by
  induction a with
  | nil => simp only [List.nil_append, PyData.weightAll, Nat.zero_add]
  | cons x r ih => simp only [List.cons_append, PyData.weightAll, ih]; omega
/-- a law's items -/
structure It (W : Nat) (l : List D) : Prop where
  el : ∀ d ∈ l, lf (10 ^ 59) d = true ∧ d.depth ≤ 20
  wt : PyData.weightAll l ≤ W
theorem It.len {W : Nat} {l : List D} (h : It W l) : l.length ≤ W := Nat.le_trans (wt_len l) h.wt
theorem It.gd {W : Nat} {l : List D} (h : It W l) (hW : W ≤ 500000) : ∀ d ∈ l, Gd d := fun d hd => ⟨lf_lay d (h.el d hd).1, Nat.le_trans (h.el d hd).2 (by decide), Nat.le_trans (Nat.le_trans (wt_mem d hd) h.wt) hW⟩
theorem It.add {W I n s : Nat} {l : List D} {d : D} (h : It W l) (t : Ta I n s d) (hI : I ≤ 1022) (hn : n ≤ 20) : It (W + 11 * s) (l ++ [d]) := by
  refine ⟨fun x hx => ?_, ?_⟩
  · rcases List.mem_append.mp hx with q | q
    · exact h.el x q
    · rw [List.mem_singleton.mp q]
      exact ⟨lf_mono (Nat.le_trans hI (by decide +kernel)) d t.lf, Nat.le_trans t.dep hn⟩
  · rw [wtA_app]
    have h1 := lf_wt d (lf_mono hI d t.lf)
    have h2 := t.sz
    have h3 := h.wt
    simp only [PyData.weightAll]
    omega
theorem It.rep {W : Nat} {l : List D} (h : It W l) (hW : W ≤ 200000) : ((PyData.list l).showable && SeqAt.shaped (.list l) && decide ((PyData.list l).shown.length ≤ sizeLine)) = true := by
  have q : lf (10 ^ 59) (.list l) = true := by simp only [lf]; exact lfA_iff.mpr fun x hx => (h.el x hx).1
  have h1 := lf_show (by decide +kernel) _ q
  have h2 : SeqAt.shaped (.list l) = true := by
    unfold SeqAt.shaped
    rw [lf_lay _ q, decide_eq_true]
    · rfl
    · simp only [PyData.depth]
      have := dep_of fun x hx => (h.el x hx).2
      omega
  have h3 := PyData.shown_le 62 (by decide) (.list l) (lf_short (by decide +kernel) _ q)
  have h4 := h.wt
  rw [show (PyData.list l).weight = PyData.weightAll l by simp only [PyData.weight]] at h3
  rw [h1, h2, decide_eq_true]
  · rfl
  · rw [sizeLine_eq]; omega
theorem mul_l (a : List D) (b : Int) : op2 .mul (.list a) (.int b) = need (decide (-(2 ^ 63) ≤ b ∧ b < 2 ^ 63 ∧ a.length * b.toNat ≤ sizeLine)) (.ret (.list (repD a b.toNat))) := rfl
def isT : M D → Bool
  | .ret (.bool true) => true
  | _ => false
theorem isT_eq {m : M D} (h : isT m = true) : m = .ret (.bool true) := by
  match m, h with
  | .ret (.bool true), _ => rfl
end Pf
namespace K01
open PySem PySem.Spec PyProof.Rows L2 Pf
def b_law_t0 : Sx := (.cons (.asgO 9 (.lst (.cons (.callk 2 [0] (.cons (.cst (.str "a")) .nil)) (.cons (.callk 3 [0] (.cons (.cst (.int 3)) .nil)) (.cons (.callk 4 [0] (.cons (.tup (.cons (.cst (.str "a")) (.cons (.cst (.int 0)) .nil))) .nil)) (.cons (.callk 5 [0] (.cons (.cst (.int 0)) .nil)) (.cons (.callk 8 [0] (.cons (.tup .nil) .nil)) .nil))))))) (.cons (.ext 9 (.lst (.cons (.callk 9 [0] (.cons (.tup (.cons (.cst (.int 1)) (.cons (.tup (.cons (.cst (.int 0)) .nil)) .nil))) .nil)) (.cons (.callk 10 [0] (.cons (.tup .nil) .nil)) (.cons (.callk 12 [0] (.cons (.tup (.cons (.tup .nil) (.cons (.tup .nil) .nil))) .nil)) .nil))))) (.cons (.ret (.cmp .eq (.bi .repr (.var 9)) (.bi .repr (.bin .mul (.lst (.cons (.cst (.bool true)) .nil)) (.cst (.int 8)))))) .nil)))
def b_law_l0 : Sx := (.cons (.asg (.var 7) (.call 24 (.cons (.var 1) (.cons (.var 6) .nil)))) (.cons (.ext 2 (.lst (.cons (.var 6) (.cons (.var 7) (.cons (.call 24 (.cons (.var 1) (.cons (.var 7) .nil))) .nil))))) .nil))
def b_law_l1 : Sx := (.cons (.asg (.var 4) (.call 22 (.cons (.var 1) (.cons (.cst (.int 3)) (.cons (.cst (.int 6)) .nil))))) (.cons (.asg (.var 5) (.tup (.cons (.tup (.cons (.tup (.cons (.cst (.str "ann")) (.cons (.call 21 (.cons (.var 1) (.cons (.cst (.int 6)) (.cons (.cst (.int 2)) .nil)))) .nil))) (.cons (.tup (.cons (.cst (.str "bob")) (.cons (.call 21 (.cons (.var 1) (.cons (.cst (.int 6)) (.cons (.cst (.int 2)) .nil)))) .nil))) .nil))) (.cons (.var 4) .nil)))) (.cons (.forS (.var 6) (.tup (.cons (.idx (.var 4) (.cst (.int 0))) (.cons (.var 4) (.cons (.var 5) (.cons (.idx (.var 5) (.cst (.int 0))) (.cons (.call 21 (.cons (.var 1) (.cons (.cst (.int 9)) (.cons (.cst (.int 4)) .nil)))) .nil)))))) b_law_l0) .nil)))
theorem e_law : b_law = (.cons (.asgO 2 (.step (.call 27 .nil) (.call 14 (.cons (.var 1) (.cons (.cst (.int 3)) .nil))) 3)) (.cons (.forS (.var 3) (.rng1 (.cst (.int 2))) b_law_l1) (.cons (.asg (.var 8) (.bi .repr (.var 2))) (.cons (.iff (.or (.cmp .ne (.lc [6] (.var 6) (.var 2) (.nt (.call 26 (.cons (.var 6) .nil))) (.var 6)) (.lst .nil)) (.cmp .ne (.bi .repr (.var 2)) (.var 8))) (.cons (.ret (.cst (.bool false))) .nil) .nil) b_law_t0)))) := rfl
theorem Fc_27_24 : F_27 24 = itF F_23 24 2 5 fu b_law_bent 12 24 := by
  have : F_27 24 = F_24 24 := by
    rw [Fe_27, Fe_26, Fe_25]
    simp [updF]
  rw [this, Fe_24]
theorem wp_bentE (ns : List Int) {I n s : Nat} {d : D} (hI : 9 ≤ I) (hI' : I ≤ 1020) (hn : n ≤ 11) (hs : s ≤ 10000) (h : Ta I n s d) : ∃ m, F_27 24 [feedD ns, d] = m ∧ WP m (Ta (I + 1) (n + 2) (2 * s + 20)) := by
  refine ⟨_, rfl, ?_⟩
  rw [Fc_27_24]
  with_reducible exact wp_bentK ns hI hI' 12 n s d (Nat.lt_of_le_of_lt h.dep (by omega)) (by omega) hs h
theorem Nums.ta {m : Nat} {ds : List D} (h : Nums m ds) (hm : m ≤ 10) {k : Nat} (hk : ds.length ≤ k) : Ta 9 1 (k + 1) (.tuple ds) := by
  refine TaL.tup (n := 0) ⟨fun d hd => ?_, ?_⟩
  · obtain ⟨i, hi, rfl⟩ := h d hd
    exact ⟨by simp only [Pf.lf, decide_eq_true_eq]; omega, by simp only [PyData.depth]; omega⟩
  · refine Nat.le_trans ?_ hk
    clear hk
    induction ds with
    | nil => exact Nat.zero_le _
    | cons x r ih =>
      obtain ⟨i, hi, rfl⟩ := h x List.mem_cons_self
      have := ih fun d hd => h d (List.mem_cons_of_mem _ hd)
      simp only [szA, Pf.sz, List.length_cons]
      omega
theorem Go.ta {g : D} (h : Go 6 g) : Ta 9 1 8 g := by
  rcases h with ⟨i, hi, rfl⟩ | ⟨s, hs, r, hr, rfl⟩
  · exact Ta.i (by omega) (by omega)
  · have hs' : Ta 9 0 6 s := by
      simp only [List.mem_cons, List.mem_nil_iff, or_false] at hs
      rcases hs with rfl | rfl | rfl <;> exact As.ta (by unfold As; decide +kernel) (by decide +kernel)
    exact (TaL.cons hs' (TaL.one (Ta.i (n := 0) (s := 1) (i := (r : Int)) (by omega) (by omega)))).tup
theorem Bx.ta {e : D} (h : Bx 6 e) : Ta 9 2 13 e := by
  obtain ⟨g, ks, rfl, hg, hk, hl⟩ := h
  exact (TaL.cons hg.ta (TaL.one (hk.ta (by omega) hl))).tup
theorem lot_ta {ds : List D} (h : ∀ e ∈ ds, Bx 6 e) (hl : ds.length = 3) : TaL 9 2 39 ds := by
  match ds, hl with
  | [a, b, c], _ =>
    exact TaL.cons (s := 13) (t := 26) (h a (by simp)).ta (TaL.cons (s := 13) (t := 13) (h b (by simp)).ta (TaL.one (h c (by simp)).ta))
theorem law_l0 (ns : List Int) (t l sh : D) (Wend : Nat) (hW : Wend ≤ 100000) (Q : Out → Prop) (q : ∀ items o6 o7, It Wend items → Q (.nx [none, some (.dat (feedD ns)), some (.own (.list items)), some (.dat t), some (.dat l), some (.dat sh), dz o6, dz o7, none, none])) (ds items : List D) (o6 o7 : Option D) (W : Nat) (hd : ∀ d ∈ ds, Ta 9 4 58 d) (hi : It W items) (hw : W + 5346 * ds.length ≤ Wend) :
    WP (forGo (tgt (.var 6)) (exGo fu F_27 b_law_l0) ds [none, some (.dat (feedD ns)), some (.own (.list items)), some (.dat t), some (.dat l), some (.dat sh), dz o6, dz o7, none, none]) Q := by
  refine wp_forI (fun left ρ => ∃ items o6 o7 W, ρ = [none, some (.dat (feedD ns)), some (.own (.list items)), some (.dat t), some (.dat l), some (.dat sh), dz o6, dz o7, none, none] ∧ (∀ d ∈ left, Ta 9 4 58 d) ∧ It W items ∧ W + 5346 * left.length ≤ Wend) ⟨items, o6, o7, W, rfl, hd, hi, hw⟩ ?_ ?_
  · rintro d r ρ ⟨items, o6, o7, W, rfl, h1, h2, h3⟩
    rw [List.length_cons] at h3
    have t1 := h1 d List.mem_cons_self
    unfold b_law_l0
    simp -implicitDefEqProofs only [↓X_nil, ↓X_cons, ↓X_asg, ↓X_asgO, ↓X_par, ↓X_bor, ↓X_app, ↓X_ext, ↓X_rmv, ↓X_popS, ↓X_appPop, ↓X_augI, ↓X_iff, ↓X_for, ↓X_ret, ↓X_retN, ↓X_cont, ↓X_brk, ↓X_pas, ↓X_expr, ↓X_frz, ↓X_run, ↓E_var, ↓E_cst, ↓E_glob, ↓E_fref, ↓E_nil, ↓E_cons, ↓E_tup, ↓E_lst, ↓E_call, ↓E_callk, ↓E_bi, ↓E_biIf, ↓E_isi, ↓E_bin, ↓E_cmp, ↓E_neg, ↓E_nt, ↓E_and, ↓E_or, ↓E_ifx, ↓E_idx, ↓E_sl, ↓E_rev, ↓E_rng1, ↓E_lrng, ↓E_trng, ↓E_lc, ↓E_upper, ↓E_step, ↓T_var, ↓T_tup, ↓T_nil, ↓T_cons, ↓W_bind, ↓W_ret, ↓W_need, ↓W_draw, ↓W_if', ↓kO_nx, ↓kO_ct, ↓kO_bk, ↓kO_rt, ↓kF_nx, ↓kF_ct, ↓kF_bk, ↓kF_rt, ↓kE_rt, ↓kE_nx, ↓kIf_t, ↓kIf_f, rdv, tst, itmv, optv, gs, gr, Pf.go, mkV, isFr, noOwn_eq, datOnly_eq, wip, tg_var, put_eq, chg, clr, clr_z, clr_o, clr_d, clr_b, clr_n, io_o, io_d, io_b, io_n, io_z, frzD, permD, SV.d, ls_l, in_i, it_l, it_t, t_b, bo_b, l_lst, l_tup, rev_l, rev_t, Pf.op_add, bi_int, c_lt, c_le, c_gt, c_ge, ev0, List.map_cons, List.map_nil, List.all_cons, List.all_nil, List.replicate, List.length_cons, List.length_nil, List.cons_append, List.nil_append, List.append_nil, List.set, List.getElem?_cons_zero, List.getElem?_cons_succ, Nat.reduceAdd, Nat.reduceSub, decide_eq_true_eq, ne_eq, if_true, if_false, Bool.false_eq_true, true_and, and_true, Option.map, ite_self, oz_c, oz_i, c_eqI, Option.getD_some, Option.getD_none, List.foldl, Bool.and_true, Bool.and_self, Bool.not_true, Bool.not_false]
    obtain ⟨m1, e1, w1⟩ := wp_bentE ns (by omega) (by omega) (by omega) (by omega) t1
    rw [e1]
    refine w1.mono fun d1 t2 => ?_
    obtain ⟨m2, e2, w2⟩ := wp_bentE ns (by omega) (by omega) (by omega) (by omega) t2
    rw [e2]
    refine w2.mono fun d2 t3 => ?_
    have hl := h2.len
    have h4 := ((h2.add t1 (by omega) (by omega)).add t2 (by omega) (by omega)).add t3 (by omega) (by omega)
    rw [List.append_assoc, List.append_assoc] at h4
    exact ⟨sz0 _ (by omega), sz0 _ (by omega), _, some d, some d1, _, rfl, fun x hx => h1 x (List.mem_cons_of_mem _ hx), h4, by omega⟩
  · rintro ρ ⟨items, o6, o7, W, rfl, h1, h2, h3⟩
    exact q items o6 o7 ⟨h2.el, Nat.le_trans h2.wt (by simpa using h3)⟩
theorem pure : Pure := by
  intro ns
  show WP (exGo fu F_27 b_law [none, some (.dat (feedD ns)), none, none, none, none, none, none, none, none]) (fun o => match o with
    | .rt v => v = .bool true
    | _ => False)
  rw [e_law]
  simp -implicitDefEqProofs only [↓X_nil, ↓X_cons, ↓X_asg, ↓X_asgO, ↓X_par, ↓X_bor, ↓X_app, ↓X_ext, ↓X_rmv, ↓X_popS, ↓X_appPop, ↓X_augI, ↓X_iff, ↓X_for, ↓X_ret, ↓X_retN, ↓X_cont, ↓X_brk, ↓X_pas, ↓X_expr, ↓X_frz, ↓X_run, ↓E_var, ↓E_cst, ↓E_glob, ↓E_fref, ↓E_nil, ↓E_cons, ↓E_tup, ↓E_lst, ↓E_call, ↓E_callk, ↓E_bi, ↓E_biIf, ↓E_isi, ↓E_bin, ↓E_cmp, ↓E_neg, ↓E_nt, ↓E_and, ↓E_or, ↓E_ifx, ↓E_idx, ↓E_sl, ↓E_rev, ↓E_rng1, ↓E_lrng, ↓E_trng, ↓E_lc, ↓E_upper, ↓E_step, ↓T_var, ↓T_tup, ↓T_nil, ↓T_cons, ↓W_bind, ↓W_ret, ↓W_need, ↓W_draw, ↓W_if', ↓kO_nx, ↓kO_ct, ↓kO_bk, ↓kO_rt, ↓kF_nx, ↓kF_ct, ↓kF_bk, ↓kF_rt, ↓kE_rt, ↓kE_nx, ↓kIf_t, ↓kIf_f, rdv, tst, itmv, optv, gs, gr, Pf.go, mkV, isFr, noOwn_eq, datOnly_eq, wip, tg_var, put_eq, chg, clr, clr_z, clr_o, clr_d, clr_b, clr_n, io_o, io_d, io_b, io_n, io_z, frzD, permD, SV.d, ls_l, in_i, it_l, it_t, t_b, bo_b, l_lst, l_tup, rev_l, rev_t, Pf.op_add, bi_int, c_lt, c_le, c_gt, c_ge, ev0, List.map_cons, List.map_nil, List.all_cons, List.all_nil, List.replicate, List.length_cons, List.length_nil, List.cons_append, List.nil_append, List.append_nil, List.set, List.getElem?_cons_zero, List.getElem?_cons_succ, Nat.reduceAdd, Nat.reduceSub, decide_eq_true_eq, ne_eq, if_true, if_false, Bool.false_eq_true, true_and, and_true, Option.map, ite_self, oz_c, oz_i, c_eqI, Option.getD_some, Option.getD_none, List.foldl, Bool.and_true, Bool.and_self, Bool.not_true, Bool.not_false, Fc_27_14, Fc_27_27, vals_eq, stepM]
  refine ⟨by omega, fun r hr => ?_⟩
  have hv := ok_v r (by omega)
  unfold okV at hv
  simp only [Bool.and_eq_true, decide_eq_true_eq] at hv
  obtain ⟨⟨⟨v1, v2⟩, v3⟩, v4⟩ := hv
  have hI : It 40000 (stepD valsL (r : Int) 3) := ⟨fun d hd => ⟨lfA_iff.mp v1 d hd, Nat.le_trans (dep_mem d hd) (Nat.le_trans v2 (by decide))⟩, v3⟩
  refine ⟨⟨by omega, sz0 _ (by omega)⟩, by omega, ?_⟩
  generalize stepD valsL (r : Int) 3 = L at hI
  refine wp_forI (fun left ρ => ∃ items o3 o4 o5 o6 o7 W, ρ = [none, some (.dat (feedD ns)), some (.own (.list items)), dz o3, dz o4, dz o5, dz o6, dz o7, none, none] ∧ It W items ∧ W + 26730 * left.length ≤ 93460) ⟨L, none, none, none, none, none, 40000, rfl, hI, by decide⟩ ?_ ?_
  · rintro d left ρ ⟨items, o3, o4, o5, o6, o7, W, rfl, h1, h2⟩
    rw [List.length_cons] at h2
    unfold b_law_l1
    simp -implicitDefEqProofs only [↓X_nil, ↓X_cons, ↓X_asg, ↓X_asgO, ↓X_par, ↓X_bor, ↓X_app, ↓X_ext, ↓X_rmv, ↓X_popS, ↓X_appPop, ↓X_augI, ↓X_iff, ↓X_for, ↓X_ret, ↓X_retN, ↓X_cont, ↓X_brk, ↓X_pas, ↓X_expr, ↓X_frz, ↓X_run, ↓E_var, ↓E_cst, ↓E_glob, ↓E_fref, ↓E_nil, ↓E_cons, ↓E_tup, ↓E_lst, ↓E_call, ↓E_callk, ↓E_bi, ↓E_biIf, ↓E_isi, ↓E_bin, ↓E_cmp, ↓E_neg, ↓E_nt, ↓E_and, ↓E_or, ↓E_ifx, ↓E_idx, ↓E_sl, ↓E_rev, ↓E_rng1, ↓E_lrng, ↓E_trng, ↓E_lc, ↓E_upper, ↓E_step, ↓T_var, ↓T_tup, ↓T_nil, ↓T_cons, ↓W_bind, ↓W_ret, ↓W_need, ↓W_draw, ↓W_if', ↓kO_nx, ↓kO_ct, ↓kO_bk, ↓kO_rt, ↓kF_nx, ↓kF_ct, ↓kF_bk, ↓kF_rt, ↓kE_rt, ↓kE_nx, ↓kIf_t, ↓kIf_f, rdv, tst, itmv, optv, gs, gr, Pf.go, mkV, isFr, noOwn_eq, datOnly_eq, wip, tg_var, put_eq, chg, clr, clr_z, clr_o, clr_d, clr_b, clr_n, io_o, io_d, io_b, io_n, io_z, frzD, permD, SV.d, ls_l, in_i, it_l, it_t, t_b, bo_b, l_lst, l_tup, rev_l, rev_t, Pf.op_add, bi_int, c_lt, c_le, c_gt, c_ge, ev0, List.map_cons, List.map_nil, List.all_cons, List.all_nil, List.replicate, List.length_cons, List.length_nil, List.cons_append, List.nil_append, List.append_nil, List.set, List.getElem?_cons_zero, List.getElem?_cons_succ, Nat.reduceAdd, Nat.reduceSub, decide_eq_true_eq, ne_eq, if_true, if_false, Bool.false_eq_true, true_and, and_true, Option.map, ite_self, oz_c, oz_i, c_eqI, Option.getD_some, Option.getD_none, List.foldl, Bool.and_true, Bool.and_self, Bool.not_true, Bool.not_false, Fc_27_22, Fc_27_21]
    obtain ⟨m1, e1, w1⟩ := wp_lotE ns 3 6 (by omega) (by omega) (by omega)
    have e1 : m_law_lot [feedD ns, .int 3, .int 6] = m1 := e1
    rw [e1]
    refine w1.mono fun l hl => ?_
    obtain ⟨bs, rfl, b1, b2⟩ := hl
    have hb := lot_ta b1 b2
    obtain ⟨m2, e2, w2⟩ := wp_gripE ns 6 2 (by omega) (by omega)
    have e2 : m_law_grip [feedD ns, .int 6, .int 2] = m2 := e2
    rw [e2]
    refine w2.mono fun g1 hg1 => ?_
    obtain ⟨ks1, rfl, c1, c2⟩ := hg1
    refine ⟨sz0 _ (by omega), w2.mono fun g2 hg2 => ?_⟩
    obtain ⟨ks2, rfl, c3, c4⟩ := hg2
    obtain ⟨b0, br, rfl⟩ : ∃ b0 br, bs = b0 :: br := by
      cases bs with
      | nil => cases b2
      | cons x y => exact ⟨x, y, rfl⟩
    have i0 : idx2 (.tuple (b0 :: br)) (.int 0) = .ret b0 := ix_inT (i := 0) rfl
    have i1 : ∀ x y : D, idx2 (.tuple [x, y]) (.int 0) = .ret x := fun x y => ix_inT (i := 0) rfl
    obtain ⟨m3, e3, w3⟩ := wp_gripE ns 9 4 (by omega) (by omega)
    have e3 : m_law_grip [feedD ns, .int 9, .int 4] = m3 := e3
    simp only [i0, i1, W_ret]
    refine ⟨sz0 _ (by omega), sz0 _ (by omega), sz0 _ (by omega), ?_⟩
    rw [e3]
    refine w3.mono fun g3 hg3 => ?_
    obtain ⟨ks3, rfl, c5, c6⟩ := hg3
    refine ⟨sz0 _ (by omega), ?_⟩
    have tl : Ta 9 3 40 (.tuple (b0 :: br)) := hb.tup
    have ta : Ta 9 0 4 (.str "ann") := As.ta (by unfold As; decide +kernel) (by decide +kernel)
    have tb : Ta 9 0 4 (.str "bob") := As.ta (by unfold As; decide +kernel) (by decide +kernel)
    have h1' := (TaL.cons (ta.mono (Nat.le_refl _) (Nat.zero_le 1) (Nat.le_refl _)) (TaL.one (c1.ta (by omega) c2))).tup
    have h2' := (TaL.cons (tb.mono (Nat.le_refl _) (Nat.zero_le 1) (Nat.le_refl _)) (TaL.one (c3.ta (by omega) c4))).tup
    have th := (TaL.cons h1' (TaL.one h2')).tup
    have ts := (TaL.cons (th.mono (Nat.le_refl _) (Nat.le_refl 3) (Nat.le_refl _)) (TaL.one tl)).tup
    refine law_l0 ns d _ _ (W + 26730) (by omega) _ (fun items o6 o7 h => ⟨items, some d, some _, some _, o6, o7, W + 26730, rfl, h, by omega⟩) _ items o6 o7 W (fun x hx => ?_) h1 (by simp)
    simp only [List.mem_cons, List.mem_nil_iff, or_false] at hx
    rcases hx with rfl | rfl | rfl | rfl | rfl
    · exact (b1 _ List.mem_cons_self).ta.mono (by omega) (by omega) (by omega)
    · exact tl.mono (by omega) (by omega) (by omega)
    · exact ts.mono (by omega) (by omega) (by omega)
    · exact th.mono (by omega) (by omega) (by omega)
    · exact (c5.ta (by omega) c6).mono (by omega) (by omega) (by omega)
  · rintro ρ ⟨items, o3, o4, o5, o6, o7, W, rfl, h1, h2⟩
    have hW : W ≤ 93460 := by omega
    have rp := rep_ret (h1.rep (by omega))
    have gd := h1.gd (by omega)
    have ne : cmp2 .ne (.list []) (.list []) = .ret (.bool false) := by rw [c_ne, k_l, shaped_nil, eqv_nil]; rfl
    simp -implicitDefEqProofs only [↓X_nil, ↓X_cons, ↓X_asg, ↓X_asgO, ↓X_par, ↓X_bor, ↓X_app, ↓X_ext, ↓X_rmv, ↓X_popS, ↓X_appPop, ↓X_augI, ↓X_iff, ↓X_for, ↓X_ret, ↓X_retN, ↓X_cont, ↓X_brk, ↓X_pas, ↓X_expr, ↓X_frz, ↓X_run, ↓E_var, ↓E_cst, ↓E_glob, ↓E_fref, ↓E_nil, ↓E_cons, ↓E_tup, ↓E_lst, ↓E_call, ↓E_callk, ↓E_bi, ↓E_biIf, ↓E_isi, ↓E_bin, ↓E_cmp, ↓E_neg, ↓E_nt, ↓E_and, ↓E_or, ↓E_ifx, ↓E_idx, ↓E_sl, ↓E_rev, ↓E_rng1, ↓E_lrng, ↓E_trng, ↓E_lc, ↓E_upper, ↓E_step, ↓T_var, ↓T_tup, ↓T_nil, ↓T_cons, ↓W_bind, ↓W_ret, ↓W_need, ↓W_draw, ↓W_if', ↓kO_nx, ↓kO_ct, ↓kO_bk, ↓kO_rt, ↓kF_nx, ↓kF_ct, ↓kF_bk, ↓kF_rt, ↓kE_rt, ↓kE_nx, ↓kIf_t, ↓kIf_f, rdv, tst, itmv, optv, gs, gr, Pf.go, mkV, isFr, noOwn_eq, datOnly_eq, wip, tg_var, put_eq, chg, clr, clr_z, clr_o, clr_d, clr_b, clr_n, io_o, io_d, io_b, io_n, io_z, frzD, permD, SV.d, ls_l, in_i, it_l, it_t, t_b, bo_b, l_lst, l_tup, rev_l, rev_t, Pf.op_add, bi_int, c_lt, c_le, c_gt, c_ge, ev0, List.map_cons, List.map_nil, List.all_cons, List.all_nil, List.replicate, List.length_cons, List.length_nil, List.cons_append, List.nil_append, List.append_nil, List.set, List.getElem?_cons_zero, List.getElem?_cons_succ, Nat.reduceAdd, Nat.reduceSub, decide_eq_true_eq, ne_eq, if_true, if_false, Bool.false_eq_true, true_and, and_true, Option.map, ite_self, oz_c, oz_i, c_eqI, Option.getD_some, Option.getD_none, List.foldl, Bool.and_true, Bool.and_self, Bool.not_true, Bool.not_false, Fc_27_26, rp.1, rp.2.2]
    refine wp_lc_flt (p := fun _ => false) (fun d hd => ?_) ?_
    · simp -implicitDefEqProofs only [↓X_nil, ↓X_cons, ↓X_asg, ↓X_asgO, ↓X_par, ↓X_bor, ↓X_app, ↓X_ext, ↓X_rmv, ↓X_popS, ↓X_appPop, ↓X_augI, ↓X_iff, ↓X_for, ↓X_ret, ↓X_retN, ↓X_cont, ↓X_brk, ↓X_pas, ↓X_expr, ↓X_frz, ↓X_run, ↓E_var, ↓E_cst, ↓E_glob, ↓E_fref, ↓E_nil, ↓E_cons, ↓E_tup, ↓E_lst, ↓E_call, ↓E_callk, ↓E_bi, ↓E_biIf, ↓E_isi, ↓E_bin, ↓E_cmp, ↓E_neg, ↓E_nt, ↓E_and, ↓E_or, ↓E_ifx, ↓E_idx, ↓E_sl, ↓E_rev, ↓E_rng1, ↓E_lrng, ↓E_trng, ↓E_lc, ↓E_upper, ↓E_step, ↓T_var, ↓T_tup, ↓T_nil, ↓T_cons, ↓W_bind, ↓W_ret, ↓W_need, ↓W_draw, ↓W_if', ↓kO_nx, ↓kO_ct, ↓kO_bk, ↓kO_rt, ↓kF_nx, ↓kF_ct, ↓kF_bk, ↓kF_rt, ↓kE_rt, ↓kE_nx, ↓kIf_t, ↓kIf_f, rdv, tst, itmv, optv, gs, gr, Pf.go, mkV, isFr, noOwn_eq, datOnly_eq, wip, tg_var, put_eq, chg, clr, clr_z, clr_o, clr_d, clr_b, clr_n, io_o, io_d, io_b, io_n, io_z, frzD, permD, SV.d, ls_l, in_i, it_l, it_t, t_b, bo_b, l_lst, l_tup, rev_l, rev_t, Pf.op_add, bi_int, c_lt, c_le, c_gt, c_ge, ev0, List.map_cons, List.map_nil, List.all_cons, List.all_nil, List.replicate, List.length_cons, List.length_nil, List.cons_append, List.nil_append, List.append_nil, List.set, List.getElem?_cons_zero, List.getElem?_cons_succ, Nat.reduceAdd, Nat.reduceSub, decide_eq_true_eq, ne_eq, if_true, if_false, Bool.false_eq_true, true_and, and_true, Option.map, ite_self, oz_c, oz_i, c_eqI, Option.getD_some, Option.getD_none, List.foldl, Bool.and_true, Bool.and_self, Bool.not_true, Bool.not_false, Fc_27_26, s_right d (gd d hd)]
    · have hf : items.filter (fun _ => false) = [] := List.filter_eq_nil_iff.mpr fun _ _ h => by cases h
      rw [hf, ne]
      simp only [W_ret, t_b, kIf_f]
      refine ⟨sz0 _ (by omega), ?_⟩
      have z1 : m_is_name [.str "a"] = .ret (.bool true) := isT_eq (by decide +kernel)
      have z2 : m_is_key [.int 3] = .ret (.bool true) := isT_eq (by decide +kernel)
      have z3 : m_is_text [.tuple [.str "a", .int 0]] = .ret (.bool true) := isT_eq (by decide +kernel)
      have z4 : m_is_thing [.int 0] = .ret (.bool true) := isT_eq (by decide +kernel)
      have z5 : m_is_keys [.tuple []] = .ret (.bool true) := isT_eq (by decide +kernel)
      have z6 : m_is_box [.tuple [.int 1, .tuple [.int 0]]] = .ret (.bool true) := isT_eq (by decide +kernel)
      have z7 : m_is_boxes [.tuple []] = .ret (.bool true) := isT_eq (by decide +kernel)
      have z8 : m_is_shelf [.tuple [.tuple [], .tuple []]] = .ret (.bool true) := isT_eq (by decide +kernel)
      have r8 := rep_ret (rep8 true true true true true true true true)
      unfold bl8 at r8
      have hm : op2 .mul (.list [.bool true]) (.int 8) = .ret (.list [.bool true, .bool true, .bool true, .bool true, .bool true, .bool true, .bool true, .bool true]) := by
        rw [mul_l, need_of (decide_eq_true ⟨by decide, by decide, sz0 _ (by decide)⟩)]
        rfl
      unfold b_law_t0
      simp -implicitDefEqProofs only [↓X_nil, ↓X_cons, ↓X_asg, ↓X_asgO, ↓X_par, ↓X_bor, ↓X_app, ↓X_ext, ↓X_rmv, ↓X_popS, ↓X_appPop, ↓X_augI, ↓X_iff, ↓X_for, ↓X_ret, ↓X_retN, ↓X_cont, ↓X_brk, ↓X_pas, ↓X_expr, ↓X_frz, ↓X_run, ↓E_var, ↓E_cst, ↓E_glob, ↓E_fref, ↓E_nil, ↓E_cons, ↓E_tup, ↓E_lst, ↓E_call, ↓E_callk, ↓E_bi, ↓E_biIf, ↓E_isi, ↓E_bin, ↓E_cmp, ↓E_neg, ↓E_nt, ↓E_and, ↓E_or, ↓E_ifx, ↓E_idx, ↓E_sl, ↓E_rev, ↓E_rng1, ↓E_lrng, ↓E_trng, ↓E_lc, ↓E_upper, ↓E_step, ↓T_var, ↓T_tup, ↓T_nil, ↓T_cons, ↓W_bind, ↓W_ret, ↓W_need, ↓W_draw, ↓W_if', ↓kO_nx, ↓kO_ct, ↓kO_bk, ↓kO_rt, ↓kF_nx, ↓kF_ct, ↓kF_bk, ↓kF_rt, ↓kE_rt, ↓kE_nx, ↓kIf_t, ↓kIf_f, rdv, tst, itmv, optv, gs, gr, Pf.go, mkV, isFr, noOwn_eq, datOnly_eq, wip, tg_var, put_eq, chg, clr, clr_z, clr_o, clr_d, clr_b, clr_n, io_o, io_d, io_b, io_n, io_z, frzD, permD, SV.d, ls_l, in_i, it_l, it_t, t_b, bo_b, l_lst, l_tup, rev_l, rev_t, Pf.op_add, bi_int, c_lt, c_le, c_gt, c_ge, ev0, List.map_cons, List.map_nil, List.all_cons, List.all_nil, List.replicate, List.length_cons, List.length_nil, List.cons_append, List.nil_append, List.append_nil, List.set, List.getElem?_cons_zero, List.getElem?_cons_succ, Nat.reduceAdd, Nat.reduceSub, decide_eq_true_eq, ne_eq, if_true, if_false, Bool.false_eq_true, true_and, and_true, Option.map, ite_self, oz_c, oz_i, c_eqI, Option.getD_some, Option.getD_none, List.foldl, Bool.and_true, Bool.and_self, Bool.not_true, Bool.not_false, Fc_27_2, Fc_27_3, Fc_27_4, Fc_27_5, Fc_27_8, Fc_27_9, Fc_27_10, Fc_27_12, z1, z2, z3, z4, z5, z6, z7, z8, hm, r8.1, r8.2.1, List.mapM_cons, List.mapM_nil, Option.bind_eq_bind, Option.bind_some, Option.pure_def]
      simp only [sizeLine_eq]
      decide
end K01
open PySem PySem.W PyProof.Rows
set_option maxRecDepth 100000 in
set_option maxHeartbeats 0 in
theorem PySem.Challenge.cw_sealshelf_k01_kinds_told_holds : PySem.Challenge.rw_sealshelf_k01_kinds_told.Holds := by
  w_on; o_law; k_head; (case hw => w_witness2)
  k_fill
  refine Pf.law_end (l := PySem.Challenge.rw_sealshelf_k01_kinds_told) (n := 63) (lv := 38 + 1) (nm := "_law_script") rfl (by decide) rfl ⟨rfl, by decide, by decide⟩ ?F
  intro w mg fA h Y G hmg
  have X := PySem.W.kIn_of Y
  refine' K01.finish K01.pure X G hmg ⟨_, (Pf.all_cons (Pf.dfn_in (d := K01.d_is_integer) X G K01.bd_is_integer K01.kb_is_integer ?a0 ?l0 ?c0 ?k0) (Pf.all_cons (Pf.dfn_in (d := K01.d_is_number) X G K01.bd_is_number K01.kb_is_number ?a1 ?l1 ?c1 ?k1) (Pf.all_cons (Pf.dfn_in (d := K01.d_is_name) X G K01.bd_is_name K01.kb_is_name ?a2 ?l2 ?c2 ?k2) (Pf.all_cons (Pf.dfn_in (d := K01.d_is_key) X G K01.bd_is_key K01.kb_is_key ?a3 ?l3 ?c3 ?k3) (Pf.all_cons (Pf.dfn_in (d := K01.d_is_text) X G K01.bd_is_text K01.kb_is_text ?a4 ?l4 ?c4 ?k4) (Pf.all_cons (Pf.dfn_in (d := K01.d_is_thing) X G K01.bd_is_thing K01.kb_is_thing ?a5 ?l5 ?c5 ?k5) (Pf.all_cons (Pf.dfn_in (d := K01.d_rises) X G K01.bd_rises K01.kb_rises ?a6 ?l6 ?c6 ?k6) (Pf.all_cons (Pf.dfn_in (d := K01.d_is_rising) X G K01.bd_is_rising K01.kb_is_rising ?a7 ?l7 ?c7 ?k7) (Pf.all_cons (Pf.dfn_in (d := K01.d_is_keys) X G K01.bd_is_keys K01.kb_is_keys ?a8 ?l8 ?c8 ?k8) (Pf.all_cons (Pf.dfn_in (d := K01.d_is_box) X G K01.bd_is_box K01.kb_is_box ?a9 ?l9 ?c9 ?k9) (Pf.all_cons (Pf.dfn_in (d := K01.d_is_boxes) X G K01.bd_is_boxes K01.kb_is_boxes ?a10 ?l10 ?c10 ?k10) (Pf.all_cons (Pf.dfn_in (d := K01.d_is_hand) X G K01.bd_is_hand K01.kb_is_hand ?a11 ?l11 ?c11 ?k11) (Pf.all_cons (Pf.dfn_in (d := K01.d_is_shelf) X G K01.bd_is_shelf K01.kb_is_shelf ?a12 ?l12 ?c12 ?k12) (Pf.all_cons (Pf.dfn_in (d := K01.d_law_feed) X G K01.bd_law_feed K01.kb_law_feed ?a13 ?l13 ?c13 ?k13) (Pf.all_cons (Pf.dfn_in (d := K01.d_law_draw) X G K01.bd_law_draw K01.kb_law_draw ?a14 ?l14 ?c14 ?k14) (Pf.all_cons (Pf.dfn_in (d := K01.d_law_key) X G K01.bd_law_key K01.kb_law_key ?a15 ?l15 ?c15 ?k15) (Pf.all_cons (Pf.dfn_in (d := K01.d_law_named) X G K01.bd_law_named K01.kb_law_named ?a16 ?l16 ?c16 ?k16) (Pf.all_cons (Pf.dfn_in (d := K01.d_law_page) X G K01.bd_law_page K01.kb_law_page ?a17 ?l17 ?c17 ?k17) (Pf.all_cons (Pf.dfn_in (d := K01.d_law_rises) X G K01.bd_law_rises K01.kb_law_rises ?a18 ?l18 ?c18 ?k18) (Pf.all_cons (Pf.dfn_in (d := K01.d_law_keyed) X G K01.bd_law_keyed K01.kb_law_keyed ?a19 ?l19 ?c19 ?k19) (Pf.all_cons (Pf.dfn_in (d := K01.d_law_boxed) X G K01.bd_law_boxed K01.kb_law_boxed ?a20 ?l20 ?c20 ?k20) (Pf.all_cons (Pf.dfn_in (d := K01.d_law_grip) X G K01.bd_law_grip K01.kb_law_grip ?a21 ?l21 ?c21 ?k21) (Pf.all_cons (Pf.dfn_in (d := K01.d_law_lot) X G K01.bd_law_lot K01.kb_law_lot ?a22 ?l22 ?c22 ?k22) (Pf.all_cons (Pf.dfn_in (d := K01.d_law_odd) X G K01.bd_law_odd K01.kb_law_odd ?a23 ?l23 ?c23 ?k23) (Pf.all_cons (Pf.dfn_in (d := K01.d_law_bent) X G K01.bd_law_bent K01.kb_law_bent ?a24 ?l24 ?c24 ?k24) (Pf.all_cons (Pf.dfn_in (d := K01.d_law_shelved) X G K01.bd_law_shelved K01.kb_law_shelved ?a25 ?l25 ?c25 ?k25) (Pf.all_cons (Pf.dfn_in (d := K01.d_law_right) X G K01.bd_law_right K01.kb_law_right ?a26 ?l26 ?c26 ?k26) (Pf.all_cons (Pf.dfn_in (d := K01.d_law_values) X G K01.bd_law_values K01.kb_law_values ?a27 ?l27 ?c27 ?k27) (Pf.all_cons (Pf.dfn_in (d := K01.d_law) X G K01.bd_law K01.kb_law ?a28 ?l28 ?c28 ?k28) Pf.all_nil)))))))))))))))))))))))))))))⟩ ?B ?C
  (case a0 => k_is); (case l0 => k_is); (case c0 => k_is); (case k0 => k_is)
  (case a1 => k_is); (case l1 => k_is); (case c1 => k_is); (case k1 => k_is)
  (case a2 => k_is); (case l2 => k_is); (case c2 => k_is); (case k2 => k_is)
  (case a3 => k_is); (case l3 => k_is); (case c3 => k_is); (case k3 => k_is)
  (case a4 => k_is); (case l4 => k_is); (case c4 => k_is); (case k4 => k_is)
  (case a5 => k_is); (case l5 => k_is); (case c5 => k_is); (case k5 => k_is)
  (case a6 => k_is); (case l6 => k_is); (case c6 => k_is); (case k6 => k_is)
  (case a7 => k_is); (case l7 => k_is); (case c7 => k_is); (case k7 => k_is)
  (case a8 => k_is); (case l8 => k_is); (case c8 => k_is); (case k8 => k_is)
  (case a9 => k_is); (case l9 => k_is); (case c9 => k_is); (case k9 => k_is)
  (case a10 => k_is); (case l10 => k_is); (case c10 => k_is); (case k10 => k_is)
  (case a11 => k_is); (case l11 => k_is); (case c11 => k_is); (case k11 => k_is)
  (case a12 => k_is); (case l12 => k_is); (case c12 => k_is); (case k12 => k_is)
  (case a13 => k_is); (case l13 => k_is); (case c13 => k_is); (case k13 => k_is)
  (case a14 => k_is); (case l14 => k_is); (case c14 => k_is); (case k14 => k_is)
  (case a15 => k_is); (case l15 => k_is); (case c15 => k_is); (case k15 => k_is)
  (case a16 => k_is); (case l16 => k_is); (case c16 => k_is); (case k16 => k_is)
  (case a17 => k_is); (case l17 => k_is); (case c17 => k_is); (case k17 => k_is)
  (case a18 => k_is); (case l18 => k_is); (case c18 => k_is); (case k18 => k_is)
  (case a19 => k_is); (case l19 => k_is); (case c19 => k_is); (case k19 => k_is)
  (case a20 => k_is); (case l20 => k_is); (case c20 => k_is); (case k20 => k_is)
  (case a21 => k_is); (case l21 => k_is); (case c21 => k_is); (case k21 => k_is)
  (case a22 => k_is); (case l22 => k_is); (case c22 => k_is); (case k22 => k_is)
  (case a23 => k_is); (case l23 => k_is); (case c23 => k_is); (case k23 => k_is)
  (case a24 => k_is); (case l24 => k_is); (case c24 => k_is); (case k24 => k_is)
  (case a25 => k_is); (case l25 => k_is); (case c25 => k_is); (case k25 => k_is)
  (case a26 => k_is); (case l26 => k_is); (case c26 => k_is); (case k26 => k_is)
  (case a27 => k_is); (case l27 => k_is); (case c27 => k_is); (case k27 => k_is)
  (case a28 => k_is); (case l28 => k_is); (case c28 => k_is); (case k28 => k_is)
  case B =>
    intro x hx
    simp only [K01.bn, List.mem_cons, List.mem_nil_iff, or_false] at hx
    rcases hx with rfl | rfl | rfl | rfl | rfl | rfl | rfl | rfl | rfl | rfl | rfl | rfl | rfl <;> k_is
  case C =>
    intro p hp
    simp only [K01.cs, List.mem_cons, List.mem_nil_iff, or_false] at hp
    rcases hp with rfl | rfl | rfl
    · refine' Pf.cs_str ?csk0; (case csk0 => k_is)
    · refine' Pf.cs_int ?csk1; (case csk1 => k_is)
    · refine' Pf.cs_str ?csk2; (case csk2 => k_is)
