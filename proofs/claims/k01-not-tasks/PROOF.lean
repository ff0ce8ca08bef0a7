import PyProof.Rows.All
import Wide.All
import OpenK.AllK
import Wide.FinOn
import PySem.PyData
import PySem.Str
import HandS.ForMost
import HandS.ForExc
import HandS.Zip
import HandS.Walk
import HandS.TupAny
import HandS.TupMul
import HandS.IsInst
import HandS.Style
import HandS.Strs
import KE.SortData
import KE.DataMinMax
import KE.DataEq
import KE.DataCmp
import HandS.WordsExc
import HandS.Words
import HandS.Dict
import PySem.Challenge.RW_codecast_k01_not_tasks
set_option Elab.async false
set_option linter.all false
set_option autoImplicit false
set_option maxRecDepth 100000
set_option maxHeartbeats 4000000

section
set_option linter.all false
set_option autoImplicit false
/-! Mini: data, the store, a small syntax without positions, its evaluator. -/
namespace Mini
open PySem (Str)

/-! ### data -/
inductive D where
  | non | bl (b : Bool) | int (i : Int) | str (s : Str) | tup (xs : List D) | lst (xs : List D)
  | dic (ks : List (List Int))
  | obj (n : Nat)
  | scr (ns : List Int)
  deriving Inhabited

mutual
def D.eqv : D → D → Bool
  | .non, .non => true
  | .bl a, .bl b => a == b
  | .bl a, .int j => (if a then 1 else 0) == j
  | .int i, .bl b => i == (if b then 1 else 0)
  | .int i, .int j => i == j
  | .str x, .str y => x == y
  | .lst xs, .lst ys => D.eqvs xs ys
  | .tup xs, .tup ys => D.eqvs xs ys
  | _, _ => false
def D.eqvs : List D → List D → Bool
  | [], [] => true
  | x :: xs, y :: ys => D.eqv x y && D.eqvs xs ys
  | _, _ => false
end
mutual
/-- no dict, no object within; nested at most n deep -/
def D.flat : D → Nat → Bool
  | .non, _ => true
  | .bl _, _ => true
  | .int _, _ => true
  | .str _, _ => true
  | .tup xs, n => n != 0 && D.flats xs (n - 1)
  | .lst xs, n => n != 0 && D.flats xs (n - 1)
  | .dic _, _ => false
  | .obj _, _ => false
  | .scr _, _ => false
def D.flats : List D → Nat → Bool
  | [], _ => true
  | x :: xs, n => D.flat x n && D.flats xs n
end
mutual
def D.alike : D → D → Bool
  | .non, .non => true
  | .bl _, .bl _ => true
  | .int _, .int _ => true
  | .str _, .str _ => true
  | .lst xs, .lst ys => D.alikes xs ys
  | .tup xs, .tup ys => D.alikes xs ys
  | _, _ => false
def D.alikes : List D → List D → Bool
  | x :: xs, y :: ys => D.alike x y && D.alikes xs ys
  | _, _ => true
end
mutual
def D.lt : D → D → Bool
  | .bl a, .bl b => !a && b
  | .int i, .int j => decide (i < j)
  | .str x, .str y => decide (x.cps.toList < y.cps.toList)
  | .lst xs, .lst ys => D.lts xs ys
  | .tup xs, .tup ys => D.lts xs ys
  | _, _ => false
def D.lts : List D → List D → Bool
  | x :: xs, y :: ys => if D.eqv x y then D.lts xs ys else D.lt x y
  | [], _ :: _ => true
  | _, [] => false
end
def D.le (a b : D) : Bool := !D.lt b a
def allAlike (ds : List D) : Bool := ds.all fun a => ds.all fun b => D.alike a b
/-- the first of the least -/
def minD (x : D) (xs : List D) : D := xs.foldl (fun a y => if D.lt y a then y else a) x

/-- the bounds of the model's sizes that the evaluator asks -/
def lim : Nat := 16000000
def deep : Nat := 40

/-! ### the store: what is changed through references -/
inductive SObj where
  | town (count : Int) (rests : List (Int × Int))
  | ses (task : D) (sent undone : List D)
abbrev S := List SObj

inductive Res (α : Type) where
  | ok (a : α) (s : S)
  | err (c : Str) (s : S)
  | bad
def Res.andThen {α β : Type} : Res α → (α → S → Res β) → Res β
  | .ok a s, f => f a s
  | .err c s, _ => .err c s
  | .bad, _ => .bad
abbrev M (α : Type) := S → Res α
def M.ret {α : Type} (a : α) : M α := fun s => .ok a s
def M.bind {α β : Type} (m : M α) (f : α → M β) : M β := fun s => (m s).andThen f
theorem M.assoc {α β γ : Type} (f : M α) (g : α → M β) (h : β → M γ) : M.bind (M.bind f g) h = M.bind f fun a => M.bind (g a) h := by
  funext s
  unfold M.bind
  cases f s <;> rfl
def M.fail {α : Type} (c : Str) : M α := fun s => .err c s
def M.bad {α : Type} : M α := fun _ => .bad
/-- nothing is raised -/
def M.calm {α : Type} (m : M α) : M α := fun s => match m s with
  | .err _ _ => .bad
  | r => r
def M.opt {α : Type} : Option α → M α
  | some a => M.ret a
  | none => M.bad

/-! ### the syntax -/
inductive Bop | add | sub | mul | fdiv | mod | pow | band | bxor
  deriving DecidableEq
inductive Cop | eq | ne | lt | le | gt | ge | isIn | notIn | is | isNot
  deriving DecidableEq
inductive Ty | int | bool | tuple | str
  deriving DecidableEq
inductive Tg where
  | name (i : Nat)
  | tup (ts : List Tg)
inductive Bf | len | all | tuple | list | sorted | min | mx2 | mn2 | lenSet | sortSet
  deriving DecidableEq

inductive ME where
  | non | bl (b : Bool) | int (i : Int) | str (s : Str)
  | glob (x : Str) (i : Int)
  | var (i : Nat)
  | bin (o : Bop) (a b : ME)
  | neg (a : ME) | inv (a : ME)
  | cmp (o : Cop) (a b : ME)
  | cmp2 (o o' : Cop) (a b c : ME)
  | andE (a b : ME) | orE (a b : ME) | notE (a : ME)
  | ife (t a b : ME)
  | tup (es : List ME) | lst (es : List ME)
  | call (f : Str) (kw : List Str) (m : List D → M D) (es : List ME)
  | blt (f : Bf) (es : List ME)
  | isi (a : ME) (t : Ty)
  | sub (a i : ME)
  | sl (a : ME) (lo hi : Option ME)
  | rev (a : ME)
  | dic0 | dic1 (a : ME)
  | lc (own : List Nat) (tg : Tg) (src : ME) (cond : Option ME) (elt : ME)
  -- only where something is walked
  | rng1 (a : ME) | rng2 (a b : ME) | zip (a b : ME) | enm (a : ME)
  -- _law_result(lambda: a)
  | res (a : ME)

inductive MS where
  /-- from here on the list or dict of the name is not changed any more -/
  | frz (i : Nat)
  | set (i : Nat) (e : ME)
  | setOwn (i : Nat) (e : ME)
  | unp (ts : Tg) (e : ME)
  | par (ts : List (Nat × Bool)) (es : List ME)
  | aug (i : Nat) (o : Bop) (e : ME)
  | app (i : Nat) (e : ME) | ext (i : Nat) (e : ME)
  | put (i : Nat) (k : ME) | upd (i : Nat) (e : ME)
  | expr (e : ME)
  | ret (e : ME)
  | ite (t : ME) (a b : List MS)
  | forS (tg : Tg) (src : ME) (body : List MS)
  | whl (fuel : Nat) (t : ME) (body : List MS)
  | raise (c : Str)

/-! ### values of the operators -/
def bop : Bop → D → D → Option D
  | .add, .int i, .int j => some (.int (i + j))
  | .add, .str x, .str y => if x.cps.size + y.cps.size ≤ lim then some (.str ⟨x.cps ++ y.cps⟩) else none
  | .add, .tup xs, .tup ys => if xs.length + ys.length ≤ lim then some (.tup (xs ++ ys)) else none
  | .add, .lst xs, .lst ys => if xs.length + ys.length ≤ lim then some (.lst (xs ++ ys)) else none
  | .sub, .int i, .int j => some (.int (i - j))
  | .mul, .int i, .int j => if i.natAbs < 2 ^ 64 then some (.int (i * j)) else none
  | .mul, .tup xs, .int j => if 2 ≤ j ∧ j ≤ 1000 ∧ xs ≠ [] ∧ xs.length ≤ 1000 then some (.tup (List.replicate j.toNat xs).flatten) else none
  | .mul, .lst xs, .int j => if 0 ≤ j ∧ j ≤ 1000 ∧ xs.length * j.toNat ≤ lim then some (.lst (List.replicate j.toNat xs).flatten) else none
  | .fdiv, .int i, .int j => if 0 < j ∧ j < 1073741824 then some (.int (i / j)) else none
  | .mod, .int i, .int j => if 0 < j then some (.int (i % j)) else none
  | .pow, .int i, .int j => if 0 ≤ j ∧ j ≤ 100 ∧ i.natAbs < 2 ^ 64 then some (.int (i ^ j.toNat)) else none
  | .band, .int i, .int j => if 0 ≤ i then (if 0 ≤ j then some (.int ((i.toNat &&& j.toNat : Nat) : Int)) else some (.int (i - ((i.toNat &&& (-j - 1).toNat : Nat) : Int)))) else none
  | .bxor, .int i, .int j => if 0 ≤ i ∧ 0 ≤ j then some (.int ((i.toNat ^^^ j.toNat : Nat) : Int)) else none
  | _, _, _ => none
/-- name op= value, for whole numbers -/
def augD (o : Bop) : D → D → Option D
  | .int i, .int j => bop o (.int i) (.int j)
  | _, _ => none
def D.isNon : D → Bool
  | .non => true
  | _ => false
def D.items : D → Option (List D)
  | .tup xs => some xs
  | .lst xs => some xs
  | .dic ks => some (ks.map fun k => .tup (k.map .int))
  | _ => none
/-- items of a list or tuple -/
def D.seq : D → Option (List D)
  | .tup xs => some xs
  | .lst xs => some xs
  | _ => none
def eqD (a b : D) : Option Bool := if D.flat a deep && D.flat b deep then some (D.eqv a b) else none
def inD (a b : D) : Option Bool := match D.seq b with
  | some xs => if D.flat a deep && D.flats xs deep then some (xs.any fun y => D.eqv y a) else none
  | none => none
def ltD (a b : D) : Option Bool := if !a.isNon && D.alike a b && D.flat a deep && D.flat b deep then some (D.lt a b) else none
def cop : Cop → D → D → Option Bool
  | .eq, a, b => eqD a b
  | .ne, a, b => (eqD a b).map (!·)
  | .lt, a, b => ltD a b
  | .gt, a, b => ltD b a
  | .le, .int a, .int b => some (decide (a ≤ b))
  | .ge, .int a, .int b => some (decide (b ≤ a))
  | .isIn, a, b => inD a b
  | .notIn, a, b => (inD a b).map (!·)
  | .is, a, b => if b.isNon then some a.isNon else none
  | .isNot, a, b => if b.isNon then some (!a.isNon) else none
  | _, _, _ => none
def D.truthy : D → Option Bool
  | .bl b => some b
  | .lst xs => some (!xs.isEmpty)
  | _ => none
def D.bools : List D → Option (List Bool)
  | [] => some []
  | .bl b :: r => (D.bools r).map (b :: ·)
  | _ => none
def D.ints : List D → Option (List Int)
  | [] => some []
  | .int b :: r => (D.ints r).map (b :: ·)
  | _ => none
/-- each once: the first of equal ones -/
def dedup : List D → List D
  | [] => []
  | x :: xs => if xs.any (fun y => D.eqv y x) then dedup xs else x :: dedup xs
def sortD (ds : List D) : Option (List D) :=
  if allAlike ds && D.flats ds deep && decide (ds.length ≤ lim) then some (ds.mergeSort D.le) else none
def blt : Bf → List D → Option D
  | .len, [d] => d.seq.map fun xs => .int xs.length
  | .all, [.lst xs] => (D.bools xs).map fun bs => .bl (bs.all id)
  | .tuple, [d] => d.seq.map .tup
  | .list, [d] => d.seq.map .lst
  | .sorted, [d] => (d.seq.bind sortD).map .lst
  | .min, [.lst (x :: xs)] => if allAlike (x :: xs) && D.flats (x :: xs) deep then some (minD x xs) else none
  | .mx2, [.int i, .int j] => some (.int (if j > i then j else i))
  | .mn2, [.int i, .int j] => some (.int (if j < i then j else i))
  | .lenSet, [d] => (d.seq).bind fun xs => if allAlike xs && D.flats xs deep then some (.int (dedup xs).length) else none
  | .sortSet, [d] => (d.seq).bind fun xs => (sortD (dedup xs)).map .lst
  | _, _ => none
def isTy : D → Ty → Bool
  | .int _, .int => true
  | .bl _, .int => true
  | .bl _, .bool => true
  | .tup _, .tuple => true
  | .str _, .str => true
  | _, _ => false
def ixN (n : Nat) (i : Int) : Option Nat := if 0 ≤ i then (if i < n then some i.toNat else none) else if -(n : Int) ≤ i then some (i + n).toNat else none
def atI {α : Type} (xs : List α) (i : Int) : Option α := (ixN xs.length i).bind fun j => xs[j]?
def subD : D → D → Option D
  | .tup xs, .int i => atI xs i
  | .lst xs, .int i => atI xs i
  | _, _ => none
def sIx (n d : Nat) : Option Int → Nat
  | none => d
  | some v => if v < 0 then (v + (n : Int)).toNat else min v.toNat n
def cut {α : Type} (xs : List α) (lo hi : Option Int) : List α := (xs.drop (sIx xs.length 0 lo)).take (sIx xs.length xs.length hi - sIx xs.length 0 lo)
def slD : D → Option Int → Option Int → Option D
  | .tup xs, lo, hi => some (.tup (cut xs lo hi))
  | .lst xs, lo, hi => some (.lst (cut xs lo hi))
  | _, _, _ => none
def revD : D → Option D
  | .tup xs => some (.tup xs.reverse)
  | .lst xs => some (.lst xs.reverse)
  | _ => none
def rangeD (a b : Int) : Option (List D) := if -(2 ^ 62) ≤ a ∧ a < 2 ^ 62 ∧ -(2 ^ 62) ≤ b ∧ b < 2 ^ 62 ∧ b - a ≤ lim then some ((List.range (b - a).toNat).map fun (i : Nat) => .int (a + i)) else none
def zipD : D → D → Option (List D)
  | .tup xs, .tup ys => some (List.zipWith (fun x y => D.tup [x, y]) xs ys)
  | .lst xs, .lst ys => some (List.zipWith (fun x y => D.tup [x, y]) xs ys)
  | _, _ => none
def enmGo : Nat → List D → List D
  | _, [] => []
  | n, x :: xs => .tup [.int n, x] :: enmGo (n + 1) xs
def enmD (a : D) : Option (List D) := a.seq.map (enmGo 0)
def keyD : D → Option (List Int)
  | .tup xs => D.ints xs
  | _ => none
def putK (ks : List (List Int)) (k : List Int) : List (List Int) := if ks.contains k then ks else ks ++ [k]

/-! ### names -/
inductive Slot where
  | dat (d : D)
  | own (d : D)
abbrev Env := List (Option Slot)
def Env.get (Γ : Env) (i : Nat) : Option D := match Γ[i]? with
  | some (some (.dat d)) => some d
  | _ => none
def Env.getOwn (Γ : Env) (i : Nat) : Option D := match Γ[i]? with
  | some (some (.own d)) => some d
  | _ => none
def Env.put (Γ : Env) (i : Nat) (s : Slot) : Env := List.set Γ i (some s)
def Env.frz (Γ : Env) (i : Nat) : Env := match Γ[i]? with
  | some (some (.own d)) => List.set Γ i (some (.dat d))
  | _ => Γ
mutual
def bindT : Tg → D → Env → Option Env
  | .name i, d, Γ => some (Env.put Γ i (.dat d))
  | .tup ts, d, Γ => match d with
    | .tup xs => bindTs ts xs Γ
    | _ => none
def bindTs : List Tg → List D → Env → Option Env
  | [], [], Γ => some Γ
  | t :: ts, x :: xs, Γ => (bindT t x Γ).bind (bindTs ts xs)
  | _, _, _ => none
end
def Env.wipe (Γ : Env) : List Nat → Env
  | [] => Γ
  | v :: vs => List.set (Env.wipe Γ vs) v none

/-- a list comprehension over the items -/
def lcGo (f : D → M (Option D)) : List D → M (List D)
  | [] => M.ret []
  | x :: xs => M.bind (f x) fun y => M.bind (lcGo f xs) fun ys => M.ret (match y with | some y => y :: ys | none => ys)

/-! ### expressions -/
/-- the law's own names of the exceptions -/
def excNames : List (Str × Str) := [(Str.ofString "InvalidTask", Str.ofString "task"), (Str.ofString "InvalidMessages", Str.ofString "messages"), (Str.ofString "InvalidCode", Str.ofString "code"),
  (Str.ofString "InvalidKnown", Str.ofString "known"), (Str.ofString "InvalidReceiver", Str.ofString "receiver"), (Str.ofString "InvalidDivision", Str.ofString "division"), (Str.ofString "InvalidNumber", Str.ofString "number"),
  (Str.ofString "InvalidSum", Str.ofString "sum"), (Str.ofString "InvalidText", Str.ofString "text"), (Str.ofString "TooMany", Str.ofString "many"), (Str.ofString "NothingToUndo", Str.ofString "undo")]
def mapRes (r : Res D) : Res D := match r with
  | .ok d s => .ok (.tup [.str (Str.ofString "returns"), d]) s
  | .err c s => match excNames.lookup c with
    | some n => .ok (.tup [.str n]) s
    | none => .bad
  | .bad => .bad

mutual
def eval : ME → Env → M D
  | .non, _ => M.ret .non
  | .bl b, _ => M.ret (.bl b)
  | .int i, _ => M.ret (.int i)
  | .str s, _ => M.ret (.str s)
  | .glob _ i, _ => M.ret (.int i)
  | .var i, Γ => M.opt (Env.get Γ i)
  | .bin o a b, Γ => M.bind (eval a Γ) fun x => M.bind (eval b Γ) fun y => M.opt (bop o x y)
  | .neg a, Γ => M.bind (eval a Γ) fun x => match x with | .int i => M.ret (.int (-i)) | _ => M.bad
  | .inv a, Γ => M.bind (eval a Γ) fun x => match x with | .int i => M.ret (.int (-i - 1)) | _ => M.bad
  | .cmp o a b, Γ => M.bind (eval a Γ) fun x => M.bind (eval b Γ) fun y => M.opt ((cop o x y).map .bl)
  | .cmp2 o o' a b c, Γ => M.bind (eval a Γ) fun x => M.bind (eval b Γ) fun y => M.bind (M.opt (cop o x y)) fun k =>
      if k then M.bind (eval c Γ) fun z => M.opt ((cop o' y z).map .bl) else M.ret (.bl false)
  | .andE a b, Γ => M.bind (eval a Γ) fun x => match x with | .bl true => eval b Γ | .bl false => M.ret (.bl false) | _ => M.bad
  | .orE a b, Γ => M.bind (eval a Γ) fun x => match x with | .bl true => M.ret (.bl true) | .bl false => eval b Γ | _ => M.bad
  | .notE a, Γ => M.bind (eval a Γ) fun x => match x with | .bl b => M.ret (.bl (!b)) | _ => M.bad
  | .ife t a b, Γ => M.bind (eval t Γ) fun x => M.bind (M.opt x.truthy) fun k => if k then eval a Γ else eval b Γ
  | .tup es, Γ => M.bind (evals es Γ) fun xs => M.ret (.tup xs)
  | .lst es, Γ => M.bind (evals es Γ) fun xs => M.ret (.lst xs)
  | .call _ _ m es, Γ => M.bind (evals es Γ) m
  | .blt f es, Γ => M.bind (evals es Γ) fun xs => M.opt (blt f xs)
  | .isi a t, Γ => M.bind (eval a Γ) fun x => match x with | .obj _ => M.bad | .dic _ => M.bad | .scr _ => M.bad | x => M.ret (.bl (isTy x t))
  | .sub a i, Γ => M.bind (eval a Γ) fun x => M.bind (eval i Γ) fun y => M.opt (subD x y)
  | .sl a lo hi, Γ => M.bind (eval a Γ) fun x => M.bind (evalO lo Γ) fun l => M.bind (evalO hi Γ) fun h => M.opt (slD x l h)
  | .rev a, Γ => M.bind (eval a Γ) fun x => M.opt (revD x)
  | .dic0, _ => M.ret (.dic [])
  | .dic1 a, Γ => M.bind (eval a Γ) fun x => M.bind (M.opt (keyD x)) fun k => M.ret (.dic [k])
  | .lc own tg src cond elt, Γ => M.bind (eval src Γ) fun w => M.bind (M.opt w.items) fun xs =>
      if xs.length ≤ lim then
        M.bind (lcGo (fun x => M.calm (M.bind (M.opt (bindT tg x (Env.wipe Γ own))) fun Γ' => M.bind (evalC cond Γ') fun k =>
          if k then M.bind (eval elt Γ') fun y => M.ret (some y) else M.ret none)) xs) fun ys => M.ret (.lst ys)
      else M.bad
  | .rng1 a, Γ => M.bind (eval a Γ) fun x => match x with | .int i => M.opt ((rangeD 0 i).map .lst) | _ => M.bad
  | .rng2 a b, Γ => M.bind (eval a Γ) fun x => M.bind (eval b Γ) fun y => match x, y with | .int i, .int j => M.opt ((rangeD i j).map .lst) | _, _ => M.bad
  | .zip a b, Γ => M.bind (eval a Γ) fun x => M.bind (eval b Γ) fun y => M.opt ((zipD x y).map .lst)
  | .enm a, Γ => M.bind (eval a Γ) fun x => M.opt ((enmD x).map .lst)
  | .res a, Γ => fun s => mapRes (eval a Γ s)
def evals : List ME → Env → M (List D)
  | [], _ => M.ret []
  | e :: es, Γ => M.bind (eval e Γ) fun x => M.bind (evals es Γ) fun xs => M.ret (x :: xs)
def evalO : Option ME → Env → M (Option Int)
  | none, _ => M.ret none
  | some e, Γ => M.bind (eval e Γ) fun x => match x with | .int i => M.ret (some i) | _ => M.bad
def evalC : Option ME → Env → M Bool
  | none, _ => M.ret true
  | some e, Γ => M.bind (eval e Γ) fun x => M.opt x.truthy
end

/-! ### statements -/
inductive Out where
  | next (Γ : Env) (s : S)
  | ret (d : D) (s : S)
  | err (c : Str) (s : S)
  | bad
def Res.out {α : Type} : Res α → (α → S → Out) → Out
  | .ok a s, f => f a s
  | .err c s, _ => .err c s
  | .bad, _ => .bad
def Out.andThen : Out → (Env → S → Out) → Out
  | .next Γ s, f => f Γ s
  | o, _ => o
def forGo (f : D → Env → S → Out) : List D → Env → S → Out
  | [], Γ, s => .next Γ s
  | x :: xs, Γ, s => (f x Γ s).andThen fun Γ s => forGo f xs Γ s
def whlGo (t : Env → S → Res Bool) (f : Env → S → Out) : Nat → Env → S → Out
  | 0, _, _ => .bad
  | n + 1, Γ, s => (t Γ s).out fun k s => if k then (f Γ s).andThen fun Γ s => whlGo t f n Γ s else .next Γ s
def opt {α : Type} (o : Option α) (f : α → Out) : Out := match o with
  | some a => f a
  | none => .bad
def putAll : List (Nat × Bool) → List D → Env → Option Env
  | [], [], Γ => some Γ
  | (i, b) :: ts, x :: xs, Γ => putAll ts xs (Env.put Γ i (if b then .own x else .dat x))
  | _, _, _ => none
mutual
def exec : MS → Env → S → Out
  | .frz i, Γ, s => .next (Env.frz Γ i) s
  | .set i e, Γ, s => (eval e Γ s).out fun d s => .next (Env.put Γ i (.dat d)) s
  | .setOwn i e, Γ, s => (eval e Γ s).out fun d s => .next (Env.put Γ i (.own d)) s
  | .unp t e, Γ, s => (eval e Γ s).out fun d s => opt (bindT t d Γ) fun Γ => .next Γ s
  | .par ts es, Γ, s => (evals es Γ s).out fun ds s => opt (putAll ts ds Γ) fun Γ => .next Γ s
  | .aug i o e, Γ, s => opt (Env.get Γ i) fun x => (eval e Γ s).out fun d s => opt (augD o x d) fun z => .next (Env.put Γ i (.dat z)) s
  | .app i e, Γ, s => opt (Env.getOwn Γ i) fun x => match x with
      | .lst xs => (eval e Γ s).out fun d s => if xs.length < lim then .next (Env.put Γ i (.own (.lst (xs ++ [d])))) s else .bad
      | _ => .bad
  | .ext i e, Γ, s => opt (Env.getOwn Γ i) fun x => match x with
      | .lst xs => (eval e Γ s).out fun d s => match d with
        | .lst ys => if xs.length + ys.length ≤ lim then .next (Env.put Γ i (.own (.lst (xs ++ ys)))) s else .bad
        | _ => .bad
      | _ => .bad
  | .put i k, Γ, s => opt (Env.getOwn Γ i) fun x => match x with
      | .dic ks => (eval k Γ s).out fun d s => opt (keyD d) fun k => if ks.length < lim then .next (Env.put Γ i (.own (.dic (putK ks k)))) s else .bad
      | _ => .bad
  | .upd i e, Γ, s => opt (Env.getOwn Γ i) fun x => match x with
      | .dic ks => (eval e Γ s).out fun d s => match d with
        | .lst xs => opt (xs.mapM keyD) fun js => if ks.length + js.length < lim then .next (Env.put Γ i (.own (.dic (js.foldl putK ks)))) s else .bad
        | _ => .bad
      | _ => .bad
  | .expr e, Γ, s => (eval e Γ s).out fun _ s => .next Γ s
  | .ret e, Γ, s => (eval e Γ s).out fun d s => .ret d s
  | .ite t a b, Γ, s => (eval t Γ s).out fun x s => opt x.truthy fun k => if k then execs a Γ s else execs b Γ s
  | .forS tg src body, Γ, s => (eval src Γ s).out fun w s => opt w.items fun xs => forGo (fun x Γ s => opt (bindT tg x Γ) fun Γ => execs body Γ s) xs Γ s
  | .whl n t body, Γ, s => whlGo (fun Γ s => (eval t Γ s).andThen fun x s => M.opt x.truthy s) (fun Γ s => execs body Γ s) n Γ s
  | .raise c, Γ, s => .err c s
def execs : List MS → Env → S → Out
  | [], Γ, s => .next Γ s
  | c :: cs, Γ, s => (exec c Γ s).andThen fun Γ s => execs cs Γ s
end
/-- a def of n names by its body -/
def run (n : Nat) (body : List MS) (ds : List D) : M D := fun s =>
  match execs body (ds.map (fun d => some (.dat d)) ++ List.replicate (n - ds.length) none) s with
  | .next _ s => .ok .non s
  | .ret d s => .ok d s
  | .err c s => .err c s
  | .bad => .bad
end Mini

end
section
namespace Mini
open PySem (Str)
/-- what a draw makes of the cell's rest -/
def drawN (ns : List Int) (count : Int) (rests : List (Int × Int)) (many : Int) : Int × List (Int × Int) :=
  let at_ : Int := if ns.isEmpty then 0 else count % ns.length
  let rest : Int := match rests.lookup at_ with | some r => r | none => if ns.isEmpty then 0 else ns.getD at_.toNat 0
  if rest ≥ 10 ^ 18 then (rest % many, if (rests.lookup at_).isSome then rests.map (fun p => if p.1 = at_ then (at_, rest / many) else p) else rests ++ [(at_, rest / many)])
  else
    let n1 := (rest + 104729 * count) % 4294967291
    let n2 := n1 ^ 5 % 4294967279
    ((n2 / 64 * 69621 + n2) % 4294967231 / 8 % many, rests)
def drawM : List D → M D
  | [.scr ns, .obj n, .int many] => fun s => match s[n]? with
    | some (.town c r) => if 0 < many ∧ many < 1073741824 ∧ r.length < lim then
        (match drawN ns (c + 1) r many with
        | (v, r') => .ok (.int v) (s.set n (.town (c + 1) r'))) else .bad
    | _ => .bad
  | _ => M.bad
def begunM : List D → M D
  | [] => fun s => .ok (.obj s.length) (s ++ [.town 0 []])
  | _ => M.bad
end Mini

end
section
set_option linter.all false
set_option autoImplicit false
set_option maxRecDepth 100000
set_option maxHeartbeats 1000000
/-! Snd1: how Mini's data and store lie in the abstract heap. -/
namespace Mini
open PySem PySem.Spec L2
open PyProof.Rows hiding St

/-- what the top has written -/
class KFrag where
  k : PySem.W.Frag
variable [KFrag]
abbrev Loc := List (Addr × List Addr)
def Loc.foot (L : Loc) (a : Addr) : Prop := ∃ p, p ∈ L ∧ (a = p.1 ∨ a ∈ p.2)

mutual
def DV (L : Loc) (F : Hp) : D → V → Prop
  | .non, v => v = .non
  | .bl b, v => v = .bl b
  | .int i, v => v = .int i
  | .str x, v => v = .str x
  | .tup ds, v => ∃ a vs, v = .ref a ∧ F a = some (.tup vs) ∧ DVs L F ds vs
  | .lst ds, v => ∃ a vs, v = .ref a ∧ F a = some (.lst vs) ∧ DVs L F ds vs
  | .dic ks, v => ∃ a o, v = .ref a ∧ F a = some (.frz o (.dT (ks.map fun k => (k.map Sum.inl, V.bl true))))
  | .obj n, v => ∃ a r, v = .ref a ∧ L[n]? = some (a, r)
  | .scr ns, v => ∃ a, v = .ref a ∧ SqL KFrag.k F a (ns.map V.int)
def DVs (L : Loc) (F : Hp) : List D → List V → Prop
  | [], vs => vs = []
  | d :: ds, vs => ∃ v r, vs = v :: r ∧ DV L F d v ∧ DVs L F ds r
end

/-- L, F, H (places of the store, what is told for ever, the heap) have grown to L', F', H' -/
structure Ext (L : Loc) (F H : Hp) (L' : Loc) (F' H' : Hp) : Prop where
  sub : ∀ a o, F a = some o → F' a = some o
  old : ∀ a o, H a = some o → ¬ Loc.foot L a → H' a = some o
  there : ∀ a, H a ≠ none → H' a ≠ none
  tups : ∀ a xs, H a = some (.tup xs) → H' a = some (.tup xs)
  fresh : ∀ a, F a = none → F' a ≠ none → H a = none ∨ ∃ xs, H' a = some (.tup xs)
  foot : ∀ a, Loc.foot L' a → Loc.foot L a ∨ H a = none
  objs : ∀ (n : Nat) a r, L[n]? = some (a, r) → ∃ r', L'[n]? = some (a, r')

theorem Ext.refl (L : Loc) (F H : Hp) : Ext L F H L F H :=
  ⟨fun _ _ h => h, fun _ _ h _ => h, fun _ h => h, fun _ _ h => h, fun a h1 h2 => absurd h1 h2, fun _ h => .inl h, fun _ _ r h => ⟨r, h⟩⟩
theorem Ext.trans {L L1 L2 : Loc} {F F1 F2 H H1 H2 : Hp} (a : Ext L F H L1 F1 H1) (b : Ext L1 F1 H1 L2 F2 H2) : Ext L F H L2 F2 H2 where
  sub := fun x o h => b.sub x o (a.sub x o h)
  old := fun x o h n => b.old x o (a.old x o h n) fun z => by
    rcases a.foot x z with z | z
    · exact n z
    · rw [z] at h; cases h
  there := fun x h => b.there x (a.there x h)
  tups := fun x xs h => b.tups x xs (a.tups x xs h)
  fresh := fun x h1 h2 => by
    cases q : F1 x with
    | none =>
      rcases b.fresh x q h2 with z | z
      · left
        cases r : H x with
        | none => rfl
        | some o => exact absurd z (a.there x (by rw [r]; simp))
      · exact .inr z
    | some o =>
      rcases a.fresh x h1 (by rw [q]; simp) with z | ⟨xs, z⟩
      · exact .inl z
      · exact .inr ⟨xs, b.tups x xs z⟩
  foot := fun x h => by
    rcases b.foot x h with z | z
    · exact a.foot x z
    · right
      cases r : H x with
      | none => rfl
      | some o => exact absurd z (a.there x (by rw [r]; simp))
  objs := fun n x r h => by
    obtain ⟨r1, h1⟩ := a.objs n x r h
    exact b.objs n x r1 h1

theorem rd_ext {F F' : Hp} (h : ∀ a o, F a = some o → F' a = some o) {a : Addr} {u : HO} (r : Rd F a u) : Rd F' a u := by
  rcases r with r | ⟨o, r⟩
  · exact .inl (h _ _ r)
  · exact .inr ⟨o, h _ _ r⟩

mutual
theorem DV.ext {L L' : Loc} {F F' : Hp} (hF : ∀ a o, F a = some o → F' a = some o) (hL : ∀ (n : Nat) a r, L[n]? = some (a, r) → ∃ r', L'[n]? = some (a, r')) : ∀ (d : D) (v : V), DV L F d v → DV L' F' d v
  | .non, v, h => by simpa [DV] using h
  | .bl _, v, h => by simpa [DV] using h
  | .int _, v, h => by simpa [DV] using h
  | .str _, v, h => by simpa [DV] using h
  | .tup ds, v, h => by
    obtain ⟨a, vs, e, h1, h2⟩ := h
    exact ⟨a, vs, e, hF _ _ h1, DVs.ext hF hL ds vs h2⟩
  | .lst ds, v, h => by
    obtain ⟨a, vs, e, h1, h2⟩ := h
    exact ⟨a, vs, e, hF _ _ h1, DVs.ext hF hL ds vs h2⟩
  | .dic ks, v, h => by
    obtain ⟨a, o, e, h1⟩ := h
    exact ⟨a, o, e, hF _ _ h1⟩
  | .obj n, v, h => by
    obtain ⟨a, r, e, h1⟩ := h
    obtain ⟨r', h2⟩ := hL n a r h1
    exact ⟨a, r', e, h2⟩
  | .scr ns, v, h => by
    obtain ⟨a, e, h1⟩ := h
    exact ⟨a, e, h1.imp (rd_ext hF) id⟩
theorem DVs.ext {L L' : Loc} {F F' : Hp} (hF : ∀ a o, F a = some o → F' a = some o) (hL : ∀ (n : Nat) a r, L[n]? = some (a, r) → ∃ r', L'[n]? = some (a, r')) : ∀ (ds : List D) (vs : List V), DVs L F ds vs → DVs L' F' ds vs
  | [], vs, h => by simpa [DVs] using h
  | d :: ds, vs, h => by
    obtain ⟨v, r, e, h1, h2⟩ := h
    exact ⟨v, r, e, DV.ext hF hL d v h1, DVs.ext hF hL ds r h2⟩
end
section
variable {L L' : Loc} {F F' H H' : Hp}
theorem Ext.dv (x : Ext L F H L' F' H') {d : D} {v : V} (h : DV L F d v) : DV L' F' d v := DV.ext x.sub x.objs d v h
theorem Ext.dvs (x : Ext L F H L' F' H') {ds : List D} {vs : List V} (h : DVs L F ds vs) : DVs L' F' ds vs := DVs.ext x.sub x.objs ds vs h
theorem DVs.len : ∀ {ds : List D} {vs : List V}, DVs L F ds vs → ds.length = vs.length
  | [], vs, h => by
    have h : vs = [] := h
    rw [h]; rfl
  | d :: ds, vs, h => by
    obtain ⟨v, r, e, _, h2⟩ := h
    rw [e, List.length_cons, List.length_cons, DVs.len h2]
theorem DVs.get : ∀ {ds : List D} {vs : List V} {i : Nat} {d : D}, DVs L F ds vs → ds[i]? = some d → ∃ v, vs[i]? = some v ∧ DV L F d v
  | [], _, _, _, _, e => by simp at e
  | d :: ds, vs, 0, x, h, e => by
    obtain ⟨v, r, rfl, h1, h2⟩ := h
    simp at e; subst e
    exact ⟨v, rfl, h1⟩
  | d :: ds, vs, i + 1, x, h, e => by
    obtain ⟨v, r, rfl, h1, h2⟩ := h
    obtain ⟨y, q1, q2⟩ := DVs.get (i := i) (d := x) h2 (by simpa using e)
    exact ⟨y, by simpa using q1, q2⟩
theorem DVs.get' : ∀ {ds : List D} {vs : List V} {i : Nat} {v : V}, DVs L F ds vs → vs[i]? = some v → ∃ d, ds[i]? = some d ∧ DV L F d v
  | [], vs, i, v, h, e => by
    have h : vs = [] := h
    rw [h] at e; simp at e
  | d :: ds, vs, 0, x, h, e => by
    obtain ⟨v, r, rfl, h1, h2⟩ := h
    simp at e; subst e
    exact ⟨d, rfl, h1⟩
  | d :: ds, vs, i + 1, x, h, e => by
    obtain ⟨v, r, rfl, h1, h2⟩ := h
    obtain ⟨y, q1, q2⟩ := DVs.get' (i := i) (v := x) h2 (by simpa using e)
    exact ⟨y, by simpa using q1, q2⟩
theorem DVs.append : ∀ {ds es : List D} {vs ws : List V}, DVs L F ds vs → DVs L F es ws → DVs L F (ds ++ es) (vs ++ ws)
  | [], _, vs, ws, h, k => by
    have h : vs = [] := h
    rw [h]; exact k
  | d :: ds, _, vs, ws, h, k => by
    obtain ⟨v, r, rfl, h1, h2⟩ := h
    exact ⟨v, r ++ ws, rfl, h1, DVs.append h2 k⟩
theorem DVs.take : ∀ {ds : List D} {vs : List V} (n : Nat), DVs L F ds vs → DVs L F (ds.take n) (vs.take n)
  | _, _, 0, _ => by simp [DVs]
  | [], vs, n + 1, h => by
    have h : vs = [] := h
    rw [h]; simp [DVs]
  | d :: ds, vs, n + 1, h => by
    obtain ⟨v, r, rfl, h1, h2⟩ := h
    exact ⟨v, r.take n, rfl, h1, DVs.take n h2⟩
theorem DVs.drop : ∀ {ds : List D} {vs : List V} (n : Nat), DVs L F ds vs → DVs L F (ds.drop n) (vs.drop n)
  | _, _, 0, h => h
  | [], vs, n + 1, h => by
    have h : vs = [] := h
    rw [h]; simp [DVs]
  | d :: ds, vs, n + 1, h => by
    obtain ⟨v, r, rfl, h1, h2⟩ := h
    exact DVs.drop n h2
theorem DVs.reverse {ds : List D} {vs : List V} (h : DVs L F ds vs) : DVs L F ds.reverse vs.reverse := by
  induction ds generalizing vs with
  | nil =>
    have h : vs = [] := h
    rw [h]; simp [DVs]
  | cons d ds ih =>
    obtain ⟨v, r, rfl, h1, h2⟩ := h
    rw [List.reverse_cons, List.reverse_cons]
    exact DVs.append (ih h2) ⟨v, [], rfl, h1, rfl⟩
theorem DVs.rep {ds : List D} {vs : List V} (h : DVs L F ds vs) : ∀ k : Nat, DVs L F (List.replicate k ds).flatten (List.replicate k vs).flatten
  | 0 => by simp [DVs]
  | k + 1 => by
    rw [List.replicate_succ, List.replicate_succ, List.flatten_cons, List.flatten_cons]
    exact DVs.append h (DVs.rep h k)
end

/-! ### the store -/
def restsV (rs : List (Int × Int)) : List (Key × V) := rs.map fun p => (Sum.inl p.1, V.int p.2)
/-- how an object of the store lies at a, with its own parts at r -/
def ObjAt (F H : Hp) (a : Addr) (r : List Addr) : SObj → Prop
  | .town c rests => ∃ b, r = [b] ∧ b ≠ a ∧ H a = some (.dK [(Sum.inr (Str.ofString "count"), .int c), (Sum.inr (Str.ofString "rests"), .ref b)]) ∧ H b = some (.dK (restsV rests))
  | .ses _ _ _ => False
structure WOk (L : Loc) (s : S) (F H : Hp) : Prop where
  sub : ∀ a o, F a = some o → H a = some o
  len : L.length = s.length
  objs : ∀ (n : Nat) o a r, s[n]? = some o → L[n]? = some (a, r) → ObjAt F H a r o
  nof : ∀ a, Loc.foot L a → F a = none ∧ H a ≠ none
  apart : ∀ (n m : Nat) p q, L[n]? = some p → L[m]? = some q → n ≠ m → ∀ a, (a = p.1 ∨ a ∈ p.2) → ¬ (a = q.1 ∨ a ∈ q.2)
theorem foot_of {L : Loc} {n : Nat} {a : Addr} {r : List Addr} (h : L[n]? = some (a, r)) : Loc.foot L a := ⟨(a, r), List.mem_of_getElem? h, .inl rfl⟩
theorem foot_of' {L : Loc} {n : Nat} {a b : Addr} {r : List Addr} (h : L[n]? = some (a, r)) (hb : b ∈ r) : Loc.foot L b := ⟨(a, r), List.mem_of_getElem? h, .inr hb⟩
theorem ObjAt.keep {F F' H H' : Hp} {a : Addr} {r : List Addr} {o : SObj} (h : ObjAt F H a r o) (hF : ∀ a o, F a = some o → F' a = some o) (k : ∀ b, (b = a ∨ b ∈ r) → H' b = H b) : ObjAt F' H' a r o := by
  cases o with
  | town c rests =>
    obtain ⟨b, e, n, h1, h2⟩ := h
    exact ⟨b, e, n, (k a (.inl rfl)).trans h1, (k b (.inr (by rw [e]; simp))).trans h2⟩
  | ses _ _ _ => exact h
section
variable {L : Loc} {s : S} {F H : Hp} {p : Addr} {o u : HO}
/-- a new object, told for ever -/
theorem WOk.push (w : WOk L s F H) (hp : H p = none) : WOk L s (upd F p o) (upd H p o) ∧ Ext L F H L (upd F p o) (upd H p o) := by
  have hn : ∀ a, Loc.foot L a → a ≠ p := fun a h e => by
    rw [e] at h
    exact (w.nof p h).2 hp
  have hFp : F p = none := by
    cases q : F p with
    | none => rfl
    | some x => have := w.sub p x q; rw [hp] at this; cases this
  have hs : ∀ a x, F a = some x → upd F p o a = some x := fun a x h => by rw [upd_ne (ne_of_none h hFp)]; exact h
  refine ⟨⟨fun a x h => ?_, w.len, fun n y a r h1 h2 => ?_, fun a h => ?_, w.apart⟩, ⟨hs, fun a x h _ => ?_, fun a h => ?_, fun a xs h => ?_, fun a h1 h2 => ?_, fun a h => .inl h, fun n a r h => ⟨r, h⟩⟩⟩
  · by_cases e : a = p
    · subst e; rw [upd_same] at h ⊢; exact h
    · rw [upd_ne e] at h ⊢; exact w.sub a x h
  · refine (w.objs n y a r h1 h2).keep hs fun b hb => ?_
    have : Loc.foot L b := ⟨(a, r), List.mem_of_getElem? h2, hb⟩
    rw [upd_ne (hn b this)]
  · rw [upd_ne (hn a h), upd_ne (hn a h)]; exact w.nof a h
  · rw [upd_ne (ne_of_none h hp)]; exact h
  · by_cases e : a = p
    · subst e; exact absurd hp h
    · rw [upd_ne e]; exact h
  · rw [upd_ne (ne_of_none h hp)]; exact h
  · by_cases e : a = p
    · subst e; exact .inl hp
    · rw [upd_ne e] at h2; exact absurd h1 h2
/-- a new object, that may change -/
theorem WOk.pushOwn (w : WOk L s F H) (hp : H p = none) : WOk L s F (upd H p o) ∧ Ext L F H L F (upd H p o) := by
  have hn : ∀ a, Loc.foot L a → a ≠ p := fun a h e => by
    rw [e] at h
    exact (w.nof p h).2 hp
  have hFp : F p = none := by
    cases q : F p with
    | none => rfl
    | some x => have := w.sub p x q; rw [hp] at this; cases this
  refine ⟨⟨fun a x h => ?_, w.len, fun n y a r h1 h2 => ?_, fun a h => ?_, w.apart⟩, ⟨fun _ _ h => h, fun a x h _ => ?_, fun a h => ?_, fun a xs h => by rw [upd_ne (ne_of_none h hp)]; exact h, fun a h1 h2 => absurd h1 h2, fun a h => .inl h, fun n a r h => ⟨r, h⟩⟩⟩
  · rw [upd_ne (ne_of_none h hFp)]; exact w.sub a x h
  · refine (w.objs n y a r h1 h2).keep (fun _ _ h => h) fun b hb => ?_
    have : Loc.foot L b := ⟨(a, r), List.mem_of_getElem? h2, hb⟩
    rw [upd_ne (hn b this)]
  · rw [upd_ne (hn a h)]; exact w.nof a h
  · rw [upd_ne (ne_of_none h hp)]; exact h
  · by_cases e : a = p
    · subst e; exact absurd hp h
    · rw [upd_ne e]; exact h
end

/-! ### names -/
def OwnAt (L : Loc) (F H : Hp) (a : Addr) : D → Prop
  | .lst ds => ∃ vs, H a = some (.lst vs) ∧ DVs L F ds vs
  | .dic ks => H a = some (.dT (ks.map fun k => (k.map Sum.inl, V.bl true)))
  | _ => False
def SlotOk (L : Loc) (F H H0 : Hp) (σ : St) (i : Nat) : Slot → Prop
  | .dat d => ∃ v, σ[i]? = some (some v) ∧ DV L F d v
  | .own d => ∃ a, σ[i]? = some (some (.ref a)) ∧ F a = none ∧ ¬ Loc.foot L a ∧ H0 a = none ∧ OwnAt L F H a d
/-- the names, the store, the heap; H0: the heap at the def's entry -/
structure Rel (Γ : Env) (s : S) (L : Loc) (F : Hp) (L0 : Loc) (F0 H0 : Hp) (σ : St) (H : Hp) : Prop where
  w : WOk L s F H
  e : Ext L0 F0 H0 L F H
  len : Γ.length = σ.length
  sl : ∀ (i : Nat) x, Γ[i]? = some (some x) → SlotOk L F H H0 σ i x
  ap : ∀ (i j : Nat) d d', Γ[i]? = some (some (.own d)) → Γ[j]? = some (some (.own d')) → i ≠ j → σ[i]? ≠ σ[j]?
section
variable {Γ : Env} {s s' : S} {L L' L0 : Loc} {F F' F0 H0 H H' : Hp} {σ : St}
theorem OwnAt.ext {a : Addr} {d : D} (h : OwnAt L F H a d) (x : Ext L F H L' F' H') (na : ¬ Loc.foot L a) : OwnAt L' F' H' a d := by
  cases d with
  | lst ds =>
    obtain ⟨vs, h1, h2⟩ := h
    exact ⟨vs, x.old _ _ h1 na, x.dvs h2⟩
  | dic ks => exact x.old _ _ (show H a = _ from h) na
  | _ => exact h.elim
theorem OwnAt.there {a : Addr} {d : D} (h : OwnAt L F H a d) : H a ≠ none := by
  cases d with
  | lst ds =>
    obtain ⟨vs, h1, h2⟩ := h
    rw [h1]; simp
  | dic ks =>
    have h : H a = _ := h
    rw [h]; simp
  | _ => exact h.elim
theorem OwnAt.notup {a : Addr} {d : D} (h : OwnAt L F H a d) (xs : List V) : H a ≠ some (.tup xs) := by
  cases d with
  | lst ds =>
    obtain ⟨vs, h1, h2⟩ := h
    rw [h1]; simp
  | dic ks =>
    have h : H a = _ := h
    rw [h]; simp
  | _ => exact h.elim
theorem SlotOk.ext {i : Nat} {x : Slot} (h : SlotOk L F H H0 σ i x) (e : Ext L F H L' F' H') : SlotOk L' F' H' H0 σ i x := by
  cases x with
  | dat d =>
    obtain ⟨v, h1, h2⟩ := h
    exact ⟨v, h1, e.dv h2⟩
  | own d =>
    obtain ⟨a, h1, h2, h3, h4, h5⟩ := h
    refine ⟨a, h1, ?_, fun z => ?_, h4, h5.ext e h3⟩
    · cases q : F' a with
      | none => rfl
      | some o =>
        rcases e.fresh a h2 (by rw [q]; simp) with z | ⟨xs, z⟩
        · exact absurd z h5.there
        · exact absurd z ((h5.ext e h3).notup xs)
    · rcases e.foot a z with z | z
      · exact h3 z
      · exact h5.there z
/-- an expression has run -/
theorem Rel.ext (R : Rel Γ s L F L0 F0 H0 σ H) (w : WOk L' s' F' H') (e : Ext L F H L' F' H') : Rel Γ s' L' F' L0 F0 H0 σ H' :=
  ⟨w, R.e.trans e, R.len, fun i x h => (R.sl i x h).ext e, R.ap⟩
end

/-! ### what a computation wants -/
def wp {α : Type} (r : Res α) (ok : α → S → Prop) (er : Str → S → Prop) : Prop := match r with
  | .ok a s => ok a s
  | .err c s => er c s
  | .bad => False
theorem wp_bind {α β : Type} {m : M α} {f : α → M β} {s : S} {ok : β → S → Prop} {er : Str → S → Prop} : wp (M.bind m f s) ok er ↔ wp (m s) (fun a s' => wp (f a s') ok er) er := by
  unfold M.bind
  cases m s <;> exact Iff.rfl
theorem wp_mono {α : Type} {r : Res α} {ok ok' : α → S → Prop} {er er' : Str → S → Prop} (h : wp r ok er) (h1 : ∀ a s, ok a s → ok' a s) (h2 : ∀ c s, er c s → er' c s) : wp r ok' er' := by
  cases r with
  | ok a s => exact h1 a s h
  | err c s => exact h2 c s h
  | bad => exact h
theorem wp_ret {α : Type} {a : α} {s : S} {ok : α → S → Prop} {er : Str → S → Prop} : wp (M.ret a s) ok er ↔ ok a s := Iff.rfl
theorem wp_bad {α : Type} {s : S} {ok : α → S → Prop} {er : Str → S → Prop} : wp (M.bad s) ok er ↔ False := Iff.rfl
theorem wp_opt {α : Type} {o : Option α} {s : S} {ok : α → S → Prop} {er : Str → S → Prop} : wp (M.opt o s) ok er ↔ ∃ a, o = some a ∧ ok a s := by
  cases o with
  | none => exact ⟨fun h => h.elim, fun ⟨a, h, _⟩ => nomatch h⟩
  | some x => exact ⟨fun h => ⟨x, rfl, h⟩, fun ⟨a, h, k⟩ => by cases h; exact k⟩
/-- what is wanted of an exception of the class c -/
def Kx (mg : Str → Option Value) (E : XK) (L : Loc) (F H : Hp) : Str → S → Prop := fun c s' => ∀ C L' F' H', mg c = some (.ref C) → WOk L' s' F' H' → Ext L F H L' F' H' → E (.ref C) none H'
theorem Kx.ext {mg : Str → Option Value} {E : XK} {L L' : Loc} {F F' H H' : Hp} (e : Ext L F H L' F' H') {c : Str} {s : S} (h : Kx mg E L F H c s) : Kx mg E L' F' H' c s :=
  fun C L2 F2 H2 hm w x => h C L2 F2 H2 hm w (e.trans x)
/-- the reading of a computation, its answer told by r -/
def tM {α β : Type} (mg : Str → Option Value) (E : XK) (r : Loc → Hp → α → β → Prop) (f : Env → M α) : St → Hp → (β → Hp → Prop) → Prop := fun σ H Q =>
  ∃ Γ s L F L0 F0 H0, Rel Γ s L F L0 F0 H0 σ H ∧ wp (f Γ s) (fun a s' => ∀ b L' F' H', WOk L' s' F' H' → Ext L F H L' F' H' → r L' F' a b → Q b H') (Kx mg E L F H)
def rD : Loc → Hp → D → V → Prop := fun L F d v => DV L F d v
def rDs : Loc → Hp → List D → List V → Prop := fun L F d v => DVs L F d v
def rB {α : Type} : Loc → Hp → α → α → Prop := fun _ _ a b => a = b
abbrev tEv (mg : Str → Option Value) (E : XK) (m : ME) : TE := tM mg E rD (eval m)
abbrev tEvs (mg : Str → Option Value) (E : XK) (ms : List ME) : TA := tM mg E rDs (evals ms)
def evalT (m : ME) (Γ : Env) : M Bool := M.bind (eval m Γ) fun x => M.opt x.truthy
abbrev tTv (mg : Str → Option Value) (E : XK) (m : ME) : TT := tM mg E rB (evalT m)
end Mini

end
section
set_option linter.all false
set_option autoImplicit false
set_option maxRecDepth 100000
set_option maxHeartbeats 1000000
/-! Snd2: operators and comparisons by data. -/
namespace Mini
open PySem PySem.Spec L2
open PyProof.Rows hiding St
variable [KFrag]

mutual
def toPy : D → PyData
  | .non => .none
  | .bl b => .bool b
  | .int i => .int i
  | .str x => .str x
  | .tup xs => .tuple (toPys xs)
  | .lst xs => .list (toPys xs)
  | .dic _ => .dict []
  | .obj _ => .dict []
  | .scr _ => .dict []
def toPys : List D → List PyData
  | [] => []
  | x :: xs => toPy x :: toPys xs
end
theorem toPys_map : ∀ xs : List D, toPys xs = xs.map toPy
  | [] => rfl
  | x :: xs => by rw [toPys, toPys_map xs]; rfl
mutual
theorem eqv_py : ∀ a b : D, PyData.eqv (toPy a) (toPy b) = D.eqv a b
  | .non, b => by cases b <;> simp [toPy, PyData.eqv, D.eqv]
  | .bl _, b => by cases b <;> simp [toPy, PyData.eqv, D.eqv]
  | .int _, b => by cases b <;> simp [toPy, PyData.eqv, D.eqv]
  | .str _, b => by cases b <;> simp [toPy, PyData.eqv, D.eqv]
  | .tup xs, b => by
    cases b with
    | tup ys => simp only [toPy, PyData.eqv, D.eqv]; exact eqvs_py xs ys
    | _ => simp [toPy, PyData.eqv, D.eqv]
  | .lst xs, b => by
    cases b with
    | lst ys => simp only [toPy, PyData.eqv, D.eqv]; exact eqvs_py xs ys
    | _ => simp [toPy, PyData.eqv, D.eqv]
  | .dic _, b => by cases b <;> simp [toPy, PyData.eqv, D.eqv]
  | .obj _, b => by cases b <;> simp [toPy, PyData.eqv, D.eqv]
  | .scr _, b => by cases b <;> simp [toPy, PyData.eqv, D.eqv]
theorem eqvs_py : ∀ a b : List D, PyData.eqvAll (toPys a) (toPys b) = D.eqvs a b
  | [], [] => by simp [toPys, PyData.eqvAll, D.eqvs]
  | [], _ :: _ => by simp [toPys, PyData.eqvAll, D.eqvs]
  | _ :: _, [] => by simp [toPys, PyData.eqvAll, D.eqvs]
  | x :: xs, y :: ys => by
    simp only [toPys, PyData.eqvAll, D.eqvs]
    rw [eqv_py x y, eqvs_py xs ys]
end
mutual
theorem alike_py : ∀ a b : D, W.alike (toPy a) (toPy b) = D.alike a b
  | .non, b => by cases b <;> simp [toPy, W.alike, D.alike]
  | .bl _, b => by cases b <;> simp [toPy, W.alike, D.alike]
  | .int _, b => by cases b <;> simp [toPy, W.alike, D.alike]
  | .str _, b => by cases b <;> simp [toPy, W.alike, D.alike]
  | .tup xs, b => by
    cases b with
    | tup ys => simp only [toPy, W.alike, D.alike]; exact alikes_py xs ys
    | _ => simp [toPy, W.alike, D.alike]
  | .lst xs, b => by
    cases b with
    | lst ys => simp only [toPy, W.alike, D.alike]; exact alikes_py xs ys
    | _ => simp [toPy, W.alike, D.alike]
  | .dic _, b => by cases b <;> simp [toPy, W.alike, D.alike]
  | .obj _, b => by cases b <;> simp [toPy, W.alike, D.alike]
  | .scr _, b => by cases b <;> simp [toPy, W.alike, D.alike]
theorem alikes_py : ∀ a b : List D, W.alikeAll (toPys a) (toPys b) = D.alikes a b
  | [], [] => by simp [toPys, W.alikeAll, D.alikes]
  | [], _ :: _ => by simp [toPys, W.alikeAll, D.alikes]
  | _ :: _, [] => by simp [toPys, W.alikeAll, D.alikes]
  | x :: xs, y :: ys => by
    simp only [toPys, W.alikeAll, D.alikes]
    rw [alike_py x y, alikes_py xs ys]
end
mutual
theorem lt_py : ∀ a b : D, D.alike a b = true → W.dataLt (toPy a) (toPy b) = D.lt a b
  | .non, b, h => by
    cases b <;> simp [D.alike] at h
    simp only [toPy, D.lt]
    exact lex_irrefl _
  | .bl x, b, h => by
    cases b with
    | bl y => simp only [toPy]; rw [W.dataLt_bool]; cases x <;> cases y <;> simp [D.lt, b2i]
    | _ => simp [D.alike] at h
  | .int x, b, h => by
    cases b with
    | int y => simp only [toPy]; rw [W.dataLt_int]; simp [D.lt]
    | _ => simp [D.alike] at h
  | .str x, b, h => by
    cases b with
    | str y => simp only [toPy]; rw [W.dataLt_str]; simp [D.lt]
    | _ => simp [D.alike] at h
  | .tup xs, b, h => by
    cases b with
    | tup ys => simp only [toPy]; rw [W.dataLt_tuple]; simp only [D.lt]; exact lts_py xs ys (by simpa [D.alike] using h)
    | _ => simp [D.alike] at h
  | .lst xs, b, h => by
    cases b with
    | lst ys => simp only [toPy]; rw [W.dataLt_list]; simp only [D.lt]; exact lts_py xs ys (by simpa [D.alike] using h)
    | _ => simp [D.alike] at h
  | .dic _, b, h => by simp [D.alike] at h
  | .obj _, b, h => by simp [D.alike] at h
  | .scr _, b, h => by simp [D.alike] at h
theorem lts_py : ∀ a b : List D, D.alikes a b = true → PyProof.Rows.lexLt itemOrd (W.keyToksAll (toPys a)) (W.keyToksAll (toPys b)) = D.lts a b
  | [], [], _ => by simp only [toPys, D.lts]; exact lex_irrefl _
  | [], y :: ys, _ => by
    simp only [toPys, D.lts, W.keyToksAll]
    rw [lex_diff (O := itemOrd) (by simp)]
    rfl
  | x :: xs, [], _ => by
    simp only [toPys, D.lts, W.keyToksAll]
    rw [lex_diff (O := itemOrd) (by simp)]
    rfl
  | x :: xs, y :: ys, h => by
    simp only [D.alikes, Bool.and_eq_true] at h
    simp only [toPys, D.lts]
    rw [W.dataLt_cons (by rw [alike_py]; exact h.1), eqv_py, lts_py xs ys h.2, lt_py x y h.1]
end
mutual
theorem flat_py : ∀ (d : D) (n : Nat), D.flat d n = true → (toPy d).plain = true ∧ (toPy d).depth ≤ n
  | .non, n, h => by simp [toPy, PyData.plain, PyData.depth]
  | .bl _, n, h => by simp [toPy, PyData.plain, PyData.depth]
  | .int _, n, h => by simp [toPy, PyData.plain, PyData.depth]
  | .str _, n, h => by simp [toPy, PyData.plain, PyData.depth]
  | .tup xs, n, h => by
    simp only [D.flat, Bool.and_eq_true, bne_iff_ne] at h
    have q := flats_py xs (n - 1) h.2
    simp only [toPy, PyData.plain, PyData.depth]
    exact ⟨q.1, by omega⟩
  | .lst xs, n, h => by
    simp only [D.flat, Bool.and_eq_true, bne_iff_ne] at h
    have q := flats_py xs (n - 1) h.2
    simp only [toPy, PyData.plain, PyData.depth]
    exact ⟨q.1, by omega⟩
  | .dic _, n, h => by simp [D.flat] at h
  | .obj _, n, h => by simp [D.flat] at h
  | .scr _, n, h => by simp [D.flat] at h
theorem flats_py : ∀ (d : List D) (n : Nat), D.flats d n = true → PyData.plainAll (toPys d) = true ∧ PyData.depthAll (toPys d) ≤ n
  | [], n, h => by simp [toPys, PyData.plainAll, PyData.depthAll]
  | x :: xs, n, h => by
    simp only [D.flats, Bool.and_eq_true] at h
    have q1 := flat_py x n h.1
    have q2 := flats_py xs n h.2
    simp only [toPys, PyData.plainAll, PyData.depthAll, Bool.and_eq_true]
    exact ⟨⟨q1.1, q2.1⟩, by omega⟩
end
section
variable {X : Cx} {pins : List (Addr × Obj)} {σ : L2.St} {H : Hp} {s : Shared} {L : Loc} {F : Hp}
mutual
/-- data without dicts and objects read as the library's data -/
theorem reads (I : Inv X pins σ H s) (hF : ∀ a o, F a = some o → H a = some o) : ∀ (d : D) (n : Nat) (v : V) (u : Value), D.flat d n = true → DV L F d v → RelV v u → ∃ as, Reads s.heap u (toPy d) as
  | .non, n, v, u, _, h, r => by
    have h : v = .non := h
    subst h
    have r : u = Value.none := r
    subst r
    exact ⟨_, .none⟩
  | .bl b, n, v, u, _, h, r => by
    have h : v = .bl b := h
    subst h
    have r : u = Value.bool b := r
    subst r
    exact ⟨_, .bool _⟩
  | .int i, n, v, u, _, h, r => by
    have h : v = .int i := h
    subst h
    obtain ⟨t, rfl⟩ := r
    exact ⟨_, .int _ _⟩
  | .str x, n, v, u, _, h, r => by
    have h : v = .str x := h
    subst h
    obtain ⟨t, rfl⟩ := r
    exact ⟨_, .str _ _⟩
  | .tup xs, n, v, u, hf, h, r => by
    obtain ⟨a, vs, rfl, h1, h2⟩ := h
    have r : u = Value.ref a := r
    subst r
    simp only [D.flat, Bool.and_eq_true, bne_iff_ne] at hf
    obtain ⟨its, rv, ⟨o, e1, e2, n', e3⟩, _⟩ := I.tuple (SqT.of (hF _ _ h1))
    obtain ⟨as, q⟩ := readsAll I hF xs (n - 1) vs its hf.2 h2 rv
    refine ⟨as, ?_⟩
    simp only [toPy]
    exact .tuple e1 e2 e3 (by simpa using q)
  | .lst xs, n, v, u, hf, h, r => by
    obtain ⟨a, vs, rfl, h1, h2⟩ := h
    have r : u = Value.ref a := r
    subst r
    simp only [D.flat, Bool.and_eq_true, bne_iff_ne] at hf
    obtain ⟨its, rv, ⟨o, n', e1, e2, e3, e4⟩, _⟩ := I.list (SqL.of (hF _ _ h1))
    obtain ⟨as, q⟩ := readsAll I hF xs (n - 1) vs its hf.2 h2 rv
    refine ⟨a :: as, ?_⟩
    simp only [toPy]
    exact .list e1 e2 e4 (by simpa using q)
  | .dic _, n, v, u, hf, h, r => by simp [D.flat] at hf
  | .obj _, n, v, u, hf, h, r => by simp [D.flat] at hf
  | .scr _, n, v, u, hf, h, r => by simp [D.flat] at hf
theorem readsAll (I : Inv X pins σ H s) (hF : ∀ a o, F a = some o → H a = some o) : ∀ (ds : List D) (n : Nat) (vs : List V) (us : List Value), D.flats ds n = true → DVs L F ds vs → Vals vs us → ∃ as, ReadsAll s.heap us (toPys ds) as
  | [], n, vs, us, _, h, r => by
    have h : vs = [] := h
    subst h
    cases r
    exact ⟨_, .nil⟩
  | d :: ds, n, vs, us, hf, h, r => by
    obtain ⟨v, w, rfl, h1, h2⟩ := h
    cases r with
    | cons r1 r2 =>
      simp only [D.flats, Bool.and_eq_true] at hf
      obtain ⟨as, q1⟩ := reads I hF d n v _ hf.1 h1 r1
      obtain ⟨bs, q2⟩ := readsAll I hF ds n w _ hf.2 h2 r2
      exact ⟨as ++ bs, .cons q1 q2⟩
end
end

/-! ### what a rule by data asks and gives: nothing changes but new objects -/
/-- the answer d, at a heap that has grown from F, H -/
def Give (L : Loc) (s : S) (F H : Hp) (d : D) (Q : VK) : Prop := ∀ v F' H', WOk L s F' H' → Ext L F H L F' H' → DV L F' d v → Q v H'
theorem Give.here {L : Loc} {s : S} {F H : Hp} {d : D} {Q : VK} (g : Give L s F H d Q) (w : WOk L s F H) {v : V} (h : DV L F d v) : Q v H := g v F H w (Ext.refl ..) h
theorem Give.tup {L : Loc} {s : S} {F H : Hp} {ds : List D} {Q : VK} (g : Give L s F H (.tup ds) Q) (w : WOk L s F H) {vs : List V} (h : DVs L F ds vs) {p : Addr} (hp : H p = none) : Q (.ref p) (upd H p (.tup vs)) := by
  obtain ⟨w', e⟩ := w.push (o := .tup vs) hp
  exact g _ _ _ w' e ⟨p, vs, rfl, upd_same, e.dvs h⟩
theorem Give.lst {L : Loc} {s : S} {F H : Hp} {ds : List D} {Q : VK} (g : Give L s F H (.lst ds) Q) (w : WOk L s F H) {vs : List V} (h : DVs L F ds vs) {p : Addr} (hp : H p = none) : Q (.ref p) (upd H p (.lst vs)) := by
  obtain ⟨w', e⟩ := w.push (o := .lst vs) hp
  exact g _ _ _ w' e ⟨p, vs, rfl, upd_same, e.dvs h⟩
def opOf : Bop → Operator
  | .add => .Add | .sub => .Sub | .mul => .Mult | .fdiv => .FloorDiv | .mod => .Mod | .pow => .Pow | .band => .BitAnd | .bxor => .BitXor
def rBin (o : Bop) : R2 := fun x y H Q => ∃ L s F a b d, WOk L s F H ∧ DV L F a x ∧ DV L F b y ∧ bop o a b = some d ∧ Give L s F H d Q
theorem lim_le : lim ≤ sizeLine := by rw [sizeLine_eq]; decide
section
variable {X : Cx}
theorem DV.eqInt {L : Loc} {F : Hp} {i : Int} {v : V} (h : DV L F (.int i) v) : v = .int i := h
theorem bin_ok (o : Bop) : OpR X (binaryOp (opOf o)) (rBin o) := by
  intro pins s σ H x y v u Q I rx ry h
  obtain ⟨L, st, F, a, b, d, w, ha, hb, e, g⟩ := h
  have twoI : ∀ {i j : Int}, a = .int i → b = .int j → x = .int i ∧ y = .int j := fun {i j} p q => by subst p q; exact ⟨ha, hb⟩
  cases o with
  | add =>
    cases a <;> cases b <;> simp only [bop, reduceCtorEq] at e
    case int.int i j =>
      obtain ⟨rfl, rfl⟩ := twoI rfl rfl
      cases e
      exact op_add pins s σ H _ _ v u Q I rx ry ⟨i, j, rfl, rfl, g.here w rfl⟩
    case str.str i j =>
      have hx : x = .str i := ha
      have hy : y = .str j := hb
      subst hx hy
      split at e
      · cases e
        exact op_add_str pins s σ H _ _ v u Q I rx ry ⟨i, j, rfl, rfl, Nat.le_trans (by assumption) lim_le, g.here w rfl⟩
      · cases e
    case tup.tup i j =>
      split at e
      · rename_i hl
        cases e
        obtain ⟨p, vs, rfl, p1, p2⟩ := ha
        obtain ⟨q, ws, rfl, q1, q2⟩ := hb
        refine op_catA pins s σ H _ _ v u Q I rx ry ⟨p, q, vs, ws, rfl, rfl, SqT.of (w.sub _ _ p1), SqT.of (w.sub _ _ q1), ?_, fun z => ?_, fun _ z => ?_, fun _ _ c hc => ?_⟩
        · rw [← p2.len, ← q2.len]; exact Nat.le_trans hl lim_le
        · subst z
          have : i = [] := List.eq_nil_of_length_eq_zero p2.len
          subst this
          exact g.here w ⟨q, ws, rfl, q1, q2⟩
        · subst z
          have : j = [] := List.eq_nil_of_length_eq_zero q2.len
          subst this
          rw [List.append_nil] at g
          exact g.here w ⟨p, vs, rfl, p1, p2⟩
        · exact g.tup w (p2.append q2) hc
      · cases e
    case lst.lst i j =>
      split at e
      · rename_i hl
        cases e
        obtain ⟨p, vs, rfl, p1, p2⟩ := ha
        obtain ⟨q, ws, rfl, q1, q2⟩ := hb
        refine op_cat pins s σ H _ _ v u Q I rx ry ⟨p, q, vs, ws, rfl, rfl, w.sub _ _ p1, w.sub _ _ q1, ?_, fun c hc => ?_⟩
        · rw [← p2.len, ← q2.len]; exact Nat.le_trans hl lim_le
        · exact g.lst w (p2.append q2) hc
      · cases e
  | sub =>
    cases a <;> cases b <;> simp only [bop, reduceCtorEq] at e
    obtain ⟨rfl, rfl⟩ := twoI rfl rfl
    cases e
    exact op_sub pins s σ H _ _ v u Q I rx ry ⟨_, _, rfl, rfl, g.here w rfl⟩
  | mul =>
    cases a <;> cases b <;> simp only [bop, reduceCtorEq] at e
    case int.int i j =>
      obtain ⟨rfl, rfl⟩ := twoI rfl rfl
      split at e
      · cases e
        exact op_mul pins s σ H _ _ v u Q I rx ry ⟨i, j, rfl, rfl, .inl (by omega), g.here w rfl⟩
      · cases e
    case tup.int i j =>
      split at e
      · rename_i hl
        cases e
        obtain ⟨p, vs, rfl, p1, p2⟩ := ha
        have hy : y = .int j := hb
        subst hy
        refine op_repT pins s σ H _ _ v u Q I rx ry ⟨p, j, vs, rfl, rfl, SqT.of (w.sub _ _ p1), fun z => ?_, hl.1, hl.2.1, by rw [← p2.len]; exact hl.2.2.2, fun c hc => g.tup w (p2.rep _) hc⟩
        subst z
        exact hl.2.2.1 (List.eq_nil_of_length_eq_zero p2.len)
      · cases e
    case lst.int i j =>
      split at e
      · rename_i hl
        cases e
        obtain ⟨p, vs, rfl, p1, p2⟩ := ha
        have hy : y = .int j := hb
        subst hy
        exact op_rep pins s σ H _ _ v u Q I rx ry ⟨p, j, vs, rfl, rfl, w.sub _ _ p1, by omega, by omega, by rw [← p2.len]; exact Nat.le_trans hl.2.2 lim_le, fun c hc => g.lst w (p2.rep _) hc⟩
      · cases e
  | fdiv =>
    cases a <;> cases b <;> simp only [bop, reduceCtorEq] at e
    obtain ⟨rfl, rfl⟩ := twoI rfl rfl
    split at e
    · rename_i hl
      cases e
      exact op_fdiv pins s σ H _ _ v u Q I rx ry ⟨_, _, rfl, rfl, hl, g.here w rfl⟩
    · cases e
  | mod =>
    cases a <;> cases b <;> simp only [bop, reduceCtorEq] at e
    obtain ⟨rfl, rfl⟩ := twoI rfl rfl
    split at e
    · rename_i hl
      cases e
      exact op_mod pins s σ H _ _ v u Q I rx ry ⟨_, _, rfl, rfl, hl, g.here w rfl⟩
    · cases e
  | pow =>
    cases a <;> cases b <;> simp only [bop, reduceCtorEq] at e
    obtain ⟨rfl, rfl⟩ := twoI rfl rfl
    split at e
    · rename_i hl
      cases e
      exact op_pow pins s σ H _ _ v u Q I rx ry ⟨_, _, rfl, rfl, ⟨hl.1, by omega, hl.2.2⟩, g.here w rfl⟩
    · cases e
  | band =>
    cases a <;> cases b <;> simp only [bop, reduceCtorEq] at e
    rename_i i j
    obtain ⟨rfl, rfl⟩ := twoI rfl rfl
    refine op_and pins s σ H _ _ v u Q I rx ry ⟨i, j, rfl, rfl, ?_⟩
    show Q (V.int (Builtin.bitAnd i j)) H
    by_cases h1 : 0 ≤ i
    · rw [if_pos h1] at e
      by_cases h2 : 0 ≤ j
      · rw [if_pos h2] at e
        cases e
        have : Builtin.bitAnd i j = ((i.toNat &&& j.toNat : Nat) : Int) := by simp [Builtin.bitAnd, h1, h2]
        rw [this]
        exact g.here w rfl
      · rw [if_neg h2] at e
        cases e
        have : Builtin.bitAnd i j = i - ((i.toNat &&& (-j - 1).toNat : Nat) : Int) := by simp [Builtin.bitAnd, Builtin.bitNot, h1, h2]
        rw [this]
        exact g.here w rfl
    · rw [if_neg h1] at e
      cases e
  | bxor =>
    cases a <;> cases b <;> simp only [bop, reduceCtorEq] at e
    rename_i i j
    obtain ⟨rfl, rfl⟩ := twoI rfl rfl
    refine op_xor pins s σ H _ _ v u Q I rx ry ⟨i, j, rfl, rfl, ?_⟩
    show Q (V.int (Builtin.bitXor i j)) H
    split at e
    · rename_i hl
      cases e
      rw [Bits.bitXor_pp hl.1 hl.2]
      exact g.here w rfl
    · cases e
end
end Mini

end
section
set_option linter.all false
set_option autoImplicit false
set_option maxRecDepth 100000
set_option maxHeartbeats 1000000
/-! Snd3: comparisons and built-ins by data. -/
namespace Mini
open PySem PySem.Spec L2
open PyProof.Rows hiding St
variable [KFrag]
open PySem.SeqAt (eq_plain ne_plain in_list_data in_tuple_data notIn_list_data notIn_tuple_data)
open PySem.W (lt_data gt_data)

def cOf : Cop → CmpOp
  | .eq => .Eq | .ne => .NotEq | .lt => .Lt | .le => .LtE | .gt => .Gt | .ge => .GtE | .isIn => .In | .notIn => .NotIn | .is => .Is | .isNot => .IsNot
/-- a comparison by data: the heap stays -/
def rCmp (o : Cop) : R2 := fun x y H Q => ∃ L s F a b k, WOk L s F H ∧ DV L F a x ∧ DV L F b y ∧ cop o a b = some k ∧ Q (.bl k) H
theorem isNon_v {L : Loc} {F : Hp} : ∀ {a : D} {x : V}, DV L F a x → a.isNon = decide (x = .non)
  | .non, x, h => by have h : x = .non := h; subst h; rfl
  | .bl _, x, h => by have h : x = .bl _ := h; subst h; rfl
  | .int _, x, h => by have h : x = .int _ := h; subst h; rfl
  | .str _, x, h => by have h : x = .str _ := h; subst h; rfl
  | .tup _, x, h => by obtain ⟨a, vs, rfl, _⟩ := h; rfl
  | .lst _, x, h => by obtain ⟨a, vs, rfl, _⟩ := h; rfl
  | .dic _, x, h => by obtain ⟨a, vs, rfl, _⟩ := h; rfl
  | .obj _, x, h => by obtain ⟨a, vs, rfl, _⟩ := h; rfl
  | .scr _, x, h => by obtain ⟨a, rfl, _⟩ := h; rfl
theorem isNon_eq {a : D} (h : a.isNon = true) : a = .non := by cases a <;> first | rfl | cases h
theorem not_none {a : D} (h : a.isNon = false) (hf : D.flat a deep = true) : toPy a ≠ .none := by
  cases a <;> first | cases h; done | (simp [toPy]; done) | (simp [D.flat] at hf; done)
section
variable {X : Cx}
theorem eqD_ok {op : CmpOp} {f : Bool → Bool} (hu : X.A.units + 200 < cLine)
    (rule : ∀ {s : Shared} {a b : Value} {da db : PyData} {as bs : List Addr} {Q : Value → Shared → Prop}, Reads s.heap a da as → Reads s.heap b db bs → da.plain = true → db.plain = true → X.A.units + min da.depth db.depth < cLine →
      Q (.bool (f (PyData.eqv da db))) s → wpAny (model X.prog X.w) X.A (compareOp op a b) Q X.xe s) :
    OpR X (compareOp op) (fun x y H Q => ∃ L s F a b k, WOk L s F H ∧ DV L F a x ∧ DV L F b y ∧ eqD a b = some k ∧ Q (.bl (f k)) H) := by
  intro pins s σ H x y v u Q I rx ry h
  obtain ⟨L, st, F, a, b, k, w, ha, hb, e, q⟩ := h
  unfold eqD at e
  split at e
  · rename_i hf
    rw [Bool.and_eq_true] at hf
    cases e
    obtain ⟨as, r1⟩ := reads I w.sub a deep x v hf.1 ha rx
    obtain ⟨bs, r2⟩ := reads I w.sub b deep y u hf.2 hb ry
    have p1 := flat_py a deep hf.1
    have p2 := flat_py b deep hf.2
    have hd : deep = 40 := rfl
    refine rule r1 r2 p1.1 p2.1 (by omega) ?_
    rw [eqv_py]
    exact ⟨.bl _, H, I, rfl, q⟩
  · cases e
theorem ltD_ok {op : CmpOp} {f : D → D → Option Bool} (hu : X.A.units + 200 < cLine) (hf : ∀ a b k, f a b = some k → a.isNon = false ∧ D.alike a b = true ∧ D.flat a deep = true ∧ D.flat b deep = true)
    (rule : ∀ {s : Shared} {a b : Value} {da db : D} {as bs : List Addr} {Q : Value → Shared → Prop} {k : Bool}, f da db = some k → Reads s.heap a (toPy da) as → Reads s.heap b (toPy db) bs → W.alike (toPy da) (toPy db) = true → toPy da ≠ .none → X.A.units + min (toPy da).depth (toPy db).depth < cLine →
      Q (.bool k) s → wpAny (model X.prog X.w) X.A (compareOp op a b) Q X.xe s) :
    OpR X (compareOp op) (fun x y H Q => ∃ L s F a b k, WOk L s F H ∧ DV L F a x ∧ DV L F b y ∧ f a b = some k ∧ Q (.bl k) H) := by
  intro pins s σ H x y v u Q I rx ry h
  obtain ⟨L, st, F, a, b, k, w, ha, hb, e, q⟩ := h
  obtain ⟨h1, h2, h3, h4⟩ := hf a b k e
  obtain ⟨as, r1⟩ := reads I w.sub a deep x v h3 ha rx
  obtain ⟨bs, r2⟩ := reads I w.sub b deep y u h4 hb ry
  have p1 := flat_py a deep h3
  have p2 := flat_py b deep h4
  have hd : deep = 40 := rfl
  refine rule e r1 r2 (by rw [alike_py]; exact h2) (not_none h1 h3) (by omega) ⟨.bl _, H, I, rfl, q⟩
theorem alike_symm_py {a b : PyData} (h : W.alike a b = true) (h2 : W.alike b a = true) : True := trivial
theorem inD_ok {op : CmpOp} {f : Bool → Bool} (hu : X.A.units + 200 < cLine)
    (rl : ∀ {s : Shared} {c x : Value} {xs : List PyData} {d : PyData} {as bs : List Addr} {Q : Value → Shared → Prop}, Reads s.heap c (.list xs) as → Reads s.heap x d bs → PyData.plainAll xs = true → d.plain = true → X.A.units + 1 + min (PyData.depthAll xs) d.depth < cLine →
      Q (.bool (f (xs.any fun y => PyData.eqv y d))) s → wpAny (model X.prog X.w) X.A (compareOp op x c) Q X.xe s)
    (rt : ∀ {s : Shared} {c x : Value} {xs : List PyData} {d : PyData} {as bs : List Addr} {Q : Value → Shared → Prop}, Reads s.heap c (.tuple xs) as → Reads s.heap x d bs → PyData.plainAll xs = true → d.plain = true → X.A.units + 1 + min (PyData.depthAll xs) d.depth < cLine →
      Q (.bool (f (xs.any fun y => PyData.eqv y d))) s → wpAny (model X.prog X.w) X.A (compareOp op x c) Q X.xe s) :
    OpR X (compareOp op) (fun x y H Q => ∃ L s F a b k, WOk L s F H ∧ DV L F a x ∧ DV L F b y ∧ inD a b = some k ∧ Q (.bl (f k)) H) := by
  intro pins s σ H x y v u Q I rx ry h
  obtain ⟨L, st, F, a, b, k, w, ha, hb, e, q⟩ := h
  have hd : deep = 40 := rfl
  have any_py : ∀ xs : List D, ((toPys xs).any fun y => PyData.eqv y (toPy a)) = xs.any fun y => D.eqv y a := fun xs => by
    rw [toPys_map, List.any_map]
    congr 1
    funext z
    exact eqv_py z a
  unfold inD at e
  cases b with
  | tup xs =>
    simp only [D.seq] at e
    split at e
    · rename_i hf
      rw [Bool.and_eq_true] at hf
      cases e
      obtain ⟨as, r1⟩ := reads I w.sub a deep x v hf.1 ha rx
      obtain ⟨bs, r2⟩ := reads I w.sub (.tup xs) (deep + 1) y u (by simp [D.flat, hf.2]) hb ry
      have p1 := flat_py a deep hf.1
      have p2 := flats_py xs deep hf.2
      refine rt (xs := toPys xs) r2 r1 p2.1 p1.1 (by omega) ?_
      rw [any_py]
      exact ⟨.bl _, H, I, rfl, q⟩
    · cases e
  | lst xs =>
    simp only [D.seq] at e
    split at e
    · rename_i hf
      rw [Bool.and_eq_true] at hf
      cases e
      obtain ⟨as, r1⟩ := reads I w.sub a deep x v hf.1 ha rx
      obtain ⟨bs, r2⟩ := reads I w.sub (.lst xs) (deep + 1) y u (by simp [D.flat, hf.2]) hb ry
      have p1 := flat_py a deep hf.1
      have p2 := flats_py xs deep hf.2
      refine rl (xs := toPys xs) r2 r1 p2.1 p1.1 (by omega) ?_
      rw [any_py]
      exact ⟨.bl _, H, I, rfl, q⟩
    · cases e
  | _ => simp [D.seq] at e
theorem ltD_of {a b : D} {k : Bool} (e : ltD a b = some k) : a.isNon = false ∧ D.alike a b = true ∧ D.flat a deep = true ∧ D.flat b deep = true ∧ k = D.lt a b := by
  unfold ltD at e
  split at e
  · rename_i hf
    simp only [Bool.and_eq_true, Bool.not_eq_true'] at hf
    cases e
    exact ⟨hf.1.1.1, hf.1.1.2, hf.1.2, hf.2, rfl⟩
  · cases e
mutual
theorem alike_symm : ∀ a b : D, D.alike a b = D.alike b a
  | .non, b => by cases b <;> simp [D.alike]
  | .bl _, b => by cases b <;> simp [D.alike]
  | .int _, b => by cases b <;> simp [D.alike]
  | .str _, b => by cases b <;> simp [D.alike]
  | .tup xs, b => by
    cases b with
    | tup ys => simp only [D.alike]; exact alikes_symm xs ys
    | _ => simp [D.alike]
  | .lst xs, b => by
    cases b with
    | lst ys => simp only [D.alike]; exact alikes_symm xs ys
    | _ => simp [D.alike]
  | .dic _, b => by cases b <;> simp [D.alike]
  | .obj _, b => by cases b <;> simp [D.alike]
  | .scr _, b => by cases b <;> simp [D.alike]
theorem alikes_symm : ∀ a b : List D, D.alikes a b = D.alikes b a
  | [], [] => by simp [D.alikes]
  | [], _ :: _ => by simp [D.alikes]
  | _ :: _, [] => by simp [D.alikes]
  | x :: xs, y :: ys => by
    simp only [D.alikes]
    rw [alike_symm x y, alikes_symm xs ys]
end
theorem alike_non {a b : D} (h : D.alike a b = true) : a.isNon = b.isNon := by
  cases a <;> cases b <;> first | rfl | (simp [D.alike] at h; done)
theorem cmp_ok (hu : X.A.units + 200 < cLine) (o : Cop) : OpR X (compareOp (cOf o)) (rCmp o) := by
  cases o with
  | eq =>
    intro pins s σ H x y v u Q I rx ry h
    exact eqD_ok (f := id) hu (fun ra rb ha hb hd hq => eq_plain ra rb ha hb hd hq) pins s σ H x y v u Q I rx ry h
  | ne =>
    intro pins s σ H x y v u Q I rx ry ⟨L, st, F, a, b, k, w, ha, hb, e, q⟩
    refine eqD_ok (f := (!·)) hu (fun ra rb ha hb hd hq => ne_plain ra rb ha hb hd hq) pins s σ H x y v u Q I rx ry ?_
    simp only [cop, Option.map_eq_some_iff] at e
    obtain ⟨k', e1, e2⟩ := e
    subst e2
    exact ⟨L, st, F, a, b, k', w, ha, hb, e1, q⟩
  | lt =>
    intro pins s σ H x y v u Q I rx ry h
    refine ltD_ok (f := ltD) hu (fun a b k e => ?_) (fun e ra rb hal hn hd hq => ?_) pins s σ H x y v u Q I rx ry h
    · obtain ⟨h1, h2, h3, h4, _⟩ := ltD_of e
      exact ⟨h1, h2, h3, h4⟩
    · obtain ⟨h1, h2, h3, h4, rfl⟩ := ltD_of e
      exact lt_data ra rb hal hn hd (by rw [lt_py _ _ h2]; exact hq)
  | gt =>
    intro pins s σ H x y v u Q I rx ry h
    refine ltD_ok (f := fun a b => ltD b a) hu (fun a b k e => ?_) (fun e ra rb hal hn hd hq => ?_) pins s σ H x y v u Q I rx ry h
    · obtain ⟨h1, h2, h3, h4, _⟩ := ltD_of e
      exact ⟨by rw [← alike_non h2]; exact h1, by rw [alike_symm]; exact h2, h4, h3⟩
    · obtain ⟨h1, h2, h3, h4, rfl⟩ := ltD_of e
      exact gt_data ra rb hal hn hd (by rw [lt_py _ _ h2]; exact hq)
  | le =>
    intro pins s σ H x y v u Q I rx ry ⟨L, st, F, a, b, k, w, ha, hb, e, q⟩
    cases a <;> cases b <;> simp only [cop, reduceCtorEq] at e
    cases e
    have hx : x = .int _ := ha
    have hy : y = .int _ := hb
    subst hx hy
    exact op_le pins s σ H _ _ v u Q I rx ry ⟨_, _, rfl, rfl, q⟩
  | ge =>
    intro pins s σ H x y v u Q I rx ry ⟨L, st, F, a, b, k, w, ha, hb, e, q⟩
    cases a <;> cases b <;> simp only [cop, reduceCtorEq] at e
    cases e
    have hx : x = .int _ := ha
    have hy : y = .int _ := hb
    subst hx hy
    exact op_ge pins s σ H _ _ v u Q I rx ry ⟨_, _, rfl, rfl, q⟩
  | isIn =>
    intro pins s σ H x y v u Q I rx ry h
    exact inD_ok (f := id) hu (fun ra rb ha hb hd hq => in_list_data ra rb ha hb hd hq) (fun ra rb ha hb hd hq => in_tuple_data ra rb ha hb hd hq) pins s σ H x y v u Q I rx ry h
  | notIn =>
    intro pins s σ H x y v u Q I rx ry ⟨L, st, F, a, b, k, w, ha, hb, e, q⟩
    refine inD_ok (f := (!·)) hu (fun ra rb ha hb hd hq => notIn_list_data ra rb ha hb hd hq) (fun ra rb ha hb hd hq => notIn_tuple_data ra rb ha hb hd hq) pins s σ H x y v u Q I rx ry ?_
    simp only [cop, Option.map_eq_some_iff] at e
    obtain ⟨k', e1, e2⟩ := e
    subst e2
    exact ⟨L, st, F, a, b, k', w, ha, hb, e1, q⟩
  | is =>
    intro pins s σ H x y v u Q I rx ry ⟨L, st, F, a, b, k, w, ha, hb, e, q⟩
    simp only [cop] at e
    split at e
    · rename_i hn
      cases e
      rw [isNon_eq hn] at hb
      have hy : y = .non := hb
      exact op_isN pins s σ H _ _ v u Q I rx ry ⟨hy, by rw [← isNon_v ha]; exact q⟩
    · cases e
  | isNot =>
    intro pins s σ H x y v u Q I rx ry ⟨L, st, F, a, b, k, w, ha, hb, e, q⟩
    simp only [cop] at e
    split at e
    · rename_i hn
      cases e
      rw [isNon_eq hn] at hb
      have hy : y = .non := hb
      exact op_notN pins s σ H _ _ v u Q I rx ry ⟨hy, by rw [← isNon_v ha]; exact q⟩
    · cases e

/-! ### built-ins -/
def rBlt (f : Bf) : List V → Hp → VK → Prop := fun xs H Q => ∃ L s F ds d, WOk L s F H ∧ DVs L F ds xs ∧ blt f ds = some d ∧ Give L s F H d Q
theorem seq_v {L : Loc} {s : S} {F H : Hp} (w : WOk L s F H) {d : D} {v : V} {ds : List D} (h : DV L F d v) (e : d.seq = some ds) : ∃ a vs, v = .ref a ∧ DVs L F ds vs ∧ ((d = .lst ds ∧ H a = some (.lst vs)) ∨ (d = .tup ds ∧ H a = some (.tup vs) ∧ F a = some (.tup vs))) := by
  cases d with
  | tup xs =>
    simp only [D.seq, Option.some.injEq] at e
    subst e
    obtain ⟨a, vs, rfl, h1, h2⟩ := h
    exact ⟨a, vs, rfl, h2, .inr ⟨rfl, w.sub _ _ h1, h1⟩⟩
  | lst xs =>
    simp only [D.seq, Option.some.injEq] at e
    subst e
    obtain ⟨a, vs, rfl, h1, h2⟩ := h
    exact ⟨a, vs, rfl, h2, .inl ⟨rfl, w.sub _ _ h1⟩⟩
  | _ => simp [D.seq] at e
theorem one_v {L : Loc} {F : Hp} {d : D} {xs : List V} (h : DVs L F [d] xs) : ∃ v, xs = [v] ∧ DV L F d v := by
  obtain ⟨v, r, rfl, h1, h2⟩ := h
  have h2 : r = [] := h2
  subst h2
  exact ⟨v, rfl, h1⟩
theorem two_v {L : Loc} {F : Hp} {d e : D} {xs : List V} (h : DVs L F [d, e] xs) : ∃ v u, xs = [v, u] ∧ DV L F d v ∧ DV L F e u := by
  obtain ⟨v, r, rfl, h1, h2⟩ := h
  obtain ⟨u, rfl, h3⟩ := one_v h2
  exact ⟨v, u, rfl, h1, h3⟩
theorem bools_v {L : Loc} {F : Hp} : ∀ {ds : List D} {bs : List Bool} {vs : List V}, D.bools ds = some bs → DVs L F ds vs → vs = bs.map V.bl
  | [], bs, vs, e, h => by
    have h : vs = [] := h
    cases e; rw [h]; rfl
  | d :: ds, bs, vs, e, h => by
    cases d <;> simp only [D.bools, Option.map_eq_some_iff, reduceCtorEq] at e
    obtain ⟨bs', e1, e2⟩ := e
    subst e2
    obtain ⟨v, r, rfl, h1, h2⟩ := h
    rw [bools_v e1 h2]
    have h1 : v = .bl _ := h1
    rw [h1]; rfl
theorem ints_v {L : Loc} {F : Hp} : ∀ {ds : List D} {bs : List Int} {vs : List V}, D.ints ds = some bs → DVs L F ds vs → vs = bs.map V.int
  | [], bs, vs, e, h => by
    have h : vs = [] := h
    cases e; rw [h]; rfl
  | d :: ds, bs, vs, e, h => by
    cases d <;> simp only [D.ints, Option.map_eq_some_iff, reduceCtorEq] at e
    obtain ⟨bs', e1, e2⟩ := e
    subst e2
    obtain ⟨v, r, rfl, h1, h2⟩ := h
    rw [ints_v e1 h2]
    have h1 : v = .int _ := h1
    rw [h1]; rfl
theorem len_ok : CallR X (.builtin "len") (rBlt .len) := by
  intro pins s σ H xs us Q I r ⟨L, st, F, ds, d, w, h, e, g⟩
  obtain ⟨a, rfl⟩ : ∃ a, ds = [a] := by
    cases ds with
    | nil => simp [blt] at e
    | cons a t => cases t with
      | nil => exact ⟨a, rfl⟩
      | cons => simp [blt] at e
  obtain ⟨v, rfl, h1⟩ := one_v h
  simp only [blt, Option.map_eq_some_iff] at e
  obtain ⟨ys, e1, rfl⟩ := e
  obtain ⟨p, vs, rfl, h2, h3⟩ := seq_v w h1 e1
  refine call_len_seq pins s σ H _ us Q I r ⟨p, vs, rfl, ?_, ?_⟩
  · rcases h3 with ⟨_, h3⟩ | ⟨_, h3, _⟩
    · exact .inl (SqL.of h3)
    · exact .inr (SqT.of h3)
  · rw [← h2.len]
    exact g.here w rfl
theorem all_ok (hc : X.calm = true) : CallR X (.builtin "all") (rBlt .all) := by
  intro pins s σ H xs us Q I r ⟨L, st, F, ds, d, w, h, e, g⟩
  obtain ⟨ys, rfl, bs, e1, rfl⟩ : ∃ ys, ds = [.lst ys] ∧ ∃ bs, D.bools ys = some bs ∧ d = .bl (bs.all id) := by
    cases ds with
    | nil => simp [blt] at e
    | cons a t => cases t with
      | cons => cases a <;> simp [blt] at e
      | nil =>
        cases a <;> simp only [blt, Option.map_eq_some_iff, reduceCtorEq] at e
        obtain ⟨bs, e1, e2⟩ := e
        exact ⟨_, rfl, bs, e1, e2.symm⟩
  obtain ⟨v, rfl, h1⟩ := one_v h
  obtain ⟨p, vs, rfl, h2, h3⟩ := h1
  rw [bools_v e1 h3] at h2
  exact cr_all hc pins s σ H _ us Q I r ⟨p, bs, rfl, SqL.of (w.sub _ _ h2), g.here w rfl⟩
theorem tuple_ok : CallR X (.type "tuple") (rBlt .tuple) := by
  intro pins s σ H xs us Q I r ⟨L, st, F, ds, d, w, h, e, g⟩
  obtain ⟨a, rfl⟩ : ∃ a, ds = [a] := by
    cases ds with
    | nil => simp [blt] at e
    | cons a t => cases t with
      | nil => exact ⟨a, rfl⟩
      | cons => simp [blt] at e
  obtain ⟨v, rfl, h1⟩ := one_v h
  simp only [blt, Option.map_eq_some_iff] at e
  obtain ⟨ys, e1, rfl⟩ := e
  obtain ⟨p, vs, rfl, h2, h3⟩ := seq_v w h1 e1
  refine call_tuple_of pins s σ H _ us Q I r ⟨p, vs, rfl, ?_⟩
  rcases h3 with ⟨_, h3⟩ | ⟨_, h3, h4⟩
  · exact .inl ⟨SqL.of h3, fun l hl => g.tup w h2 hl⟩
  · exact .inr ⟨SqT.of h3, g.here w ⟨p, vs, rfl, h4, h2⟩⟩
theorem list_ok : CallR X (.type "list") (rBlt .list) := by
  intro pins s σ H xs us Q I r ⟨L, st, F, ds, d, w, h, e, g⟩
  obtain ⟨a, rfl⟩ : ∃ a, ds = [a] := by
    cases ds with
    | nil => simp [blt] at e
    | cons a t => cases t with
      | nil => exact ⟨a, rfl⟩
      | cons => simp [blt] at e
  obtain ⟨v, rfl, h1⟩ := one_v h
  simp only [blt, Option.map_eq_some_iff] at e
  obtain ⟨ys, e1, rfl⟩ := e
  obtain ⟨p, vs, rfl, h2, h3⟩ := seq_v w h1 e1
  refine call_list_of pins s σ H _ us Q I r ⟨p, vs, rfl, ?_, fun l hl => g.lst w h2 hl⟩
  rcases h3 with ⟨_, h3⟩ | ⟨_, h3, h4⟩
  · exact .inl (SqL.of h3)
  · exact .inr (SqT.of h3)
theorem mx2_ok (hc : X.calm = true) : CallR X (.builtin "max") (rBlt .mx2) := by
  intro pins s σ H xs us Q I r ⟨L, st, F, ds, d, w, h, e, g⟩
  obtain ⟨i, j, rfl, rfl⟩ : ∃ i j, ds = [.int i, .int j] ∧ d = .int (if j > i then j else i) := by
    rcases ds with _ | ⟨a, _ | ⟨b, _ | _⟩⟩
    · simp [blt] at e
    · cases a <;> simp [blt] at e
    · cases a <;> cases b <;> simp [blt] at e
      exact ⟨_, _, rfl, by rw [← e]⟩
    · cases a <;> cases b <;> simp [blt] at e
  obtain ⟨v, u, rfl, h1, h2⟩ := two_v h
  have h1 : v = .int i := h1
  have h2 : u = .int j := h2
  subst h1 h2
  exact call_max2 hc pins s σ H _ us Q I r ⟨i, j, rfl, g.here w rfl⟩
theorem mn2_ok (hc : X.calm = true) : CallR X (.builtin "min") (rBlt .mn2) := by
  intro pins s σ H xs us Q I r ⟨L, st, F, ds, d, w, h, e, g⟩
  obtain ⟨i, j, rfl, rfl⟩ : ∃ i j, ds = [.int i, .int j] ∧ d = .int (if j < i then j else i) := by
    rcases ds with _ | ⟨a, _ | ⟨b, _ | _⟩⟩
    · simp [blt] at e
    · cases a <;> simp [blt] at e
    · cases a <;> cases b <;> simp [blt] at e
      exact ⟨_, _, rfl, by rw [← e]⟩
    · cases a <;> cases b <;> simp [blt] at e
  obtain ⟨v, u, rfl, h1, h2⟩ := two_v h
  have h1 : v = .int i := h1
  have h2 : u = .int j := h2
  subst h1 h2
  exact call_min2 hc pins s σ H _ us Q I r ⟨i, j, rfl, g.here w rfl⟩
theorem flats_mem {n : Nat} : ∀ {ds : List D} {d : D}, D.flats ds n = true → d ∈ ds → D.flat d n = true
  | x :: xs, d, h, hm => by
    simp only [D.flats, Bool.and_eq_true] at h
    rcases List.mem_cons.mp hm with rfl | hm
    · exact h.1
    · exact flats_mem h.2 hm
theorem alike_all {ds : List D} (h : allAlike ds = true) {a b : D} (ha : a ∈ ds) (hb : b ∈ ds) : D.alike a b = true := by
  unfold allAlike at h
  rw [List.all_eq_true] at h
  have := h a ha
  rw [List.all_eq_true] at this
  exact this b hb
theorem minD_mem (x : D) : ∀ xs : List D, minD x xs ∈ x :: xs := by
  intro xs
  unfold minD
  induction xs generalizing x with
  | nil => simp
  | cons y ys ih =>
    rw [List.foldl_cons]
    split
    · exact List.mem_cons_of_mem _ (ih y)
    · rcases List.mem_cons.mp (ih x) with h | h
      · rw [h]; exact List.mem_cons_self
      · exact List.mem_cons_of_mem _ (List.mem_cons_of_mem _ h)
theorem minD_py (ds : List D) (hal : allAlike ds = true) : ∀ (xs : List D) (x : D), x ∈ ds → (∀ y ∈ xs, y ∈ ds) → PySem.W.minD (toPy x) (toPys xs) = toPy (minD x xs)
  | [], x, _, _ => rfl
  | y :: ys, x, hx, hy => by
    have hy1 := hy y List.mem_cons_self
    have e : PySem.W.minD (toPy x) (toPys (y :: ys)) = PySem.W.minD (if D.lt y x = true then toPy y else toPy x) (toPys ys) := by
      show PySem.W.minD (toPy x) (toPy y :: toPys ys) = _
      unfold PySem.W.minD
      rw [List.foldl_cons, lt_py y x (alike_all hal hy1 hx)]
    have e2 : minD x (y :: ys) = minD (if D.lt y x = true then y else x) ys := rfl
    rw [e, e2]
    by_cases hl : D.lt y x = true
    · rw [if_pos hl, if_pos hl]
      exact minD_py ds hal ys y hy1 fun z hz => hy z (List.mem_cons_of_mem _ hz)
    · rw [if_neg hl, if_neg hl]
      exact minD_py ds hal ys x hx fun z hz => hy z (List.mem_cons_of_mem _ hz)
end
end Mini

end
section
set_option linter.all false
set_option autoImplicit false
set_option maxRecDepth 100000
set_option maxHeartbeats 1000000
/-! Snd4: the expressions' forms, one by one. -/
namespace Mini
open PySem PySem.Spec L2
open PyProof.Rows hiding St
variable [KFrag]

theorem PE.imp {X : Cx} {e : Expr} {t t' : TE} (h : PE X e t) (k : ∀ σ H Q, t' σ H Q → t σ H Q) : PE X e t' := ⟨fun pins s σ H Q I q => h.run pins s σ H Q I (k σ H Q q)⟩
theorem PT.imp {X : Cx} {e : Expr} {t t' : TT} (h : PT X e t) (k : ∀ σ H Q, t' σ H Q → t σ H Q) : PT X e t' := ⟨fun pins s σ H Q I q => h.run pins s σ H Q I (k σ H Q q)⟩
theorem PA.imp {X : Cx} {e : List Expr} {t t' : TA} (h : PA X e t) (k : ∀ σ H Q, t' σ H Q → t σ H Q) : PA X e t' := ⟨fun pos pins s σ H Q I q => h.run pos pins s σ H Q I (k σ H Q q)⟩
theorem PK.imp {X : Cx} {e : List Keyword} {t t' : TA} (h : PK X e t) (k : ∀ σ H Q, t' σ H Q → t σ H Q) : PK X e t' := ⟨fun pos pins s σ H Q I q => h.run pos pins s σ H Q I (k σ H Q q)⟩
theorem PI.imp {X : Cx} {tg e : Expr} {t t' : TI} (h : PI X tg e t) (k : ∀ σ H Q, t' σ H Q → t σ H Q) : PI X tg e t' := ⟨fun pins s σ H Q I q => h.run pins s σ H Q I (k σ H Q q)⟩
theorem PI.or {X : Cx} {tg e : Expr} {t t' : TI} (h : PI X tg e t) (h' : PI X tg e t') : PI X tg e (fun σ H R => t σ H R ∨ t' σ H R) := ⟨fun pins s σ H Q I q => q.elim (h.run pins s σ H Q I) (h'.run pins s σ H Q I)⟩
theorem PE.or {X : Cx} {e : Expr} {t t' : TE} (h : PE X e t) (h' : PE X e t') : PE X e (fun σ H R => t σ H R ∨ t' σ H R) := ⟨fun pins s σ H Q I q => q.elim (h.run pins s σ H Q I) (h'.run pins s σ H Q I)⟩
theorem PS.imp {X : Cx} {e : Stmt} {t t' : TS} (h : PS X e t) (k : ∀ D σ H, t' D σ H → t D σ H) : PS X e t' := ⟨fun pins s σ H D I q => h.run pins s σ H D I (k D σ H q)⟩
theorem PSs.imp {X : Cx} {e : List Stmt} {t t' : TS} (h : PSs X e t) (k : ∀ D σ H, t' D σ H → t D σ H) : PSs X e t' := ⟨fun pins s σ H D I q => h.run pins s σ H D I (k D σ H q)⟩
theorem PS.or {X : Cx} {e : Stmt} {t t' : TS} (h : PS X e t) (h' : PS X e t') : PS X e (fun D σ H => t D σ H ∨ t' D σ H) := ⟨fun pins s σ H D I q => q.elim (h.run pins s σ H D I) (h'.run pins s σ H D I)⟩

def okAt {α β : Type} (r : Loc → Hp → α → β → Prop) (Q : β → Hp → Prop) (L : Loc) (F H : Hp) : α → S → Prop := fun a s' => ∀ b L' F' H', WOk L' s' F' H' → Ext L F H L' F' H' → r L' F' a b → Q b H'
section
variable {mg : Str → Option Value} {E : XK} {L : Loc} {F H : Hp}
theorem okAt.ext {α β : Type} {r : Loc → Hp → α → β → Prop} {Q : β → Hp → Prop} {L' : Loc} {F' H' : Hp} {a : α} {s : S} (h : okAt r Q L F H a s) (x : Ext L F H L' F' H') : okAt r Q L' F' H' a s :=
  fun b L2 F2 H2 w e rr => h b L2 F2 H2 w (x.trans e) rr
/-- the first of two computations has run -/
theorem wp_then {α β γ δ : Type} {r : Loc → Hp → α → β → Prop} {r2 : Loc → Hp → γ → δ → Prop} {f : M α} {g : α → M γ} {s : S} {Q : δ → Hp → Prop} {P : β → Hp → Prop}
    (h : wp (M.bind f g s) (okAt r2 Q L F H) (Kx mg E L F H))
    (k : ∀ a b s1 L1 F1 H1, WOk L1 s1 F1 H1 → Ext L F H L1 F1 H1 → r L1 F1 a b → wp (g a s1) (okAt r2 Q L1 F1 H1) (Kx mg E L1 F1 H1) → P b H1) :
    wp (f s) (okAt r P L F H) (Kx mg E L F H) := by
  rw [wp_bind] at h
  refine wp_mono h (fun a s1 h1 b L1 F1 H1 w1 e1 r1 => ?_) fun _ _ z => z
  exact k a b s1 L1 F1 H1 w1 e1 r1 (wp_mono h1 (fun _ _ z => z.ext e1) fun _ _ z => z.ext e1)
theorem Give.of {s : S} {d : D} {Q : VK} (h : okAt rD Q L F H d s) : Give L s F H d Q := fun v F' H' w e dv => h v L F' H' w e dv
end

/-- the names of the built-ins that the text uses -/
def bnames : List Str := ["isinstance", "len", "all", "tuple", "list", "sorted", "min", "max", "set", "dict", "int", "bool", "str", "range", "zip", "enumerate", "ValueError"]
structure XOk (X : Cx) (N : List Str) (sc : Scope) (E : XK) : Prop where
  hN : X.N = N
  sc : X.env.scope = sc
  nd : N.Nodup
  calm : X.calm = true
  pass : Passes (L2.CX X.prog X.w) X E
  hu : X.A.units + 200 < cLine
  blt : ∀ x, x ∈ bnames → X.mg x = none
section
variable {X : Cx} {N : List Str} {sc : Scope} {E : XK}
theorem s_var {i : Nat} {x : Str} {pos : Pos} (hN : X.N[i]? = some x) (hv : Vis X.env.scope x) (hd : (x == ("__debug__" : Str)) = false) (hcd : (x == ("__classdict__" : Str)) = false) : PE X (.Name x pos) (tEv X.mg E (.var i)) := by
  refine PE.imp (pe_var hN hv hd hcd) fun σ H Q ⟨Γ, s, L, F, L0, F0, H0, R, h⟩ => ?_
  simp only [eval] at h
  rw [wp_opt] at h
  obtain ⟨d, e, h⟩ := h
  unfold Env.get at e
  split at e
  · rename_i d' h1
    cases e
    obtain ⟨v, h2, h3⟩ := R.sl i _ h1
    exact ⟨v, h2, h v L F H R.w (Ext.refl ..) h3⟩
  · cases e
theorem s_const {m : ME} {d : D} {v : V} {e : Expr} (h : PE X e (tC v)) (hm : ∀ Γ, eval m Γ = M.ret d) (hv : ∀ L F, DV L F d v) : PE X e (tEv X.mg E m) := by
  refine PE.imp h fun σ H Q ⟨Γ, s, L, F, L0, F0, H0, R, q⟩ => ?_
  rw [hm] at q
  exact q v L F H R.w (Ext.refl ..) (hv L F)
variable {a b c : ME} {ea eb ec : Expr} {pos : Pos}
theorem s_bin {o : Bop} (ha : PE X ea (tEv X.mg E a)) (hb : PE X eb (tEv X.mg E b)) : PE X (.BinOp ea (opOf o) eb pos) (tEv X.mg E (.bin o a b)) := by
  refine PE.imp (pe_op (bin_ok o) ha hb) fun σ H Q ⟨Γ, s, L, F, L0, F0, H0, R, h⟩ => ?_
  simp only [eval] at h
  refine ⟨Γ, s, L, F, L0, F0, H0, R, wp_then h fun x v s1 L1 F1 H1 w1 e1 r1 h1 => ⟨Γ, s1, L1, F1, L0, F0, H0, R.ext w1 e1, wp_then h1 fun y u s2 L2 F2 H2 w2 e2 r2 h2 => ?_⟩⟩
  rw [wp_opt] at h2
  obtain ⟨d, e, h2⟩ := h2
  exact ⟨L2, s2, F2, x, y, d, w2, e2.dv r1, r2, e, Give.of h2⟩
theorem s_neg (ha : PE X ea (tEv X.mg E a)) : PE X (.UnaryOp .USub ea pos) (tEv X.mg E (.neg a)) := by
  refine PE.imp (pe_un un_neg ha) fun σ H Q ⟨Γ, s, L, F, L0, F0, H0, R, h⟩ => ?_
  simp only [eval] at h
  refine ⟨Γ, s, L, F, L0, F0, H0, R, wp_then h fun x v s1 L1 F1 H1 w1 e1 r1 h1 => ?_⟩
  cases x <;> first | exact h1.elim | skip
  have r1 : v = .int _ := r1
  exact ⟨_, r1, h1 _ L1 F1 H1 w1 (Ext.refl ..) rfl⟩
theorem s_inv (ha : PE X ea (tEv X.mg E a)) : PE X (.UnaryOp .Invert ea pos) (tEv X.mg E (.inv a)) := by
  refine PE.imp (pe_un un_inv ha) fun σ H Q ⟨Γ, s, L, F, L0, F0, H0, R, h⟩ => ?_
  simp only [eval] at h
  refine ⟨Γ, s, L, F, L0, F0, H0, R, wp_then h fun x v s1 L1 F1 H1 w1 e1 r1 h1 => ?_⟩
  cases x <;> first | exact h1.elim | skip
  have r1 : v = .int _ := r1
  exact ⟨_, r1, h1 _ L1 F1 H1 w1 (Ext.refl ..) rfl⟩
theorem s_cmp {o : Cop} (hu : X.A.units + 200 < cLine) (ha : PE X ea (tEv X.mg E a)) (hb : PE X eb (tEv X.mg E b)) (hm : behindInMarks (cOf o) eb = false) : PE X (.Compare ea [cOf o] [eb] pos) (tEv X.mg E (.cmp o a b)) := by
  refine PE.imp (pe_cmpR (cmp_ok hu o) ha hb hm) fun σ H Q ⟨Γ, s, L, F, L0, F0, H0, R, h⟩ => ?_
  simp only [eval] at h
  refine ⟨Γ, s, L, F, L0, F0, H0, R, wp_then h fun x v s1 L1 F1 H1 w1 e1 r1 h1 => ⟨Γ, s1, L1, F1, L0, F0, H0, R.ext w1 e1, wp_then h1 fun y u s2 L2 F2 H2 w2 e2 r2 h2 => ?_⟩⟩
  rw [wp_opt] at h2
  obtain ⟨d, e, h2⟩ := h2
  obtain ⟨k, ek, rfl⟩ := Option.map_eq_some_iff.mp e
  exact ⟨L2, s2, F2, x, y, k, w2, e2.dv r1, r2, ek, h2 _ L2 F2 H2 w2 (Ext.refl ..) rfl⟩
theorem truthy_bl {k b : Bool} (e : D.truthy (.bl k) = some b) : b = k := by cases e; rfl
/-- a test that is a bool -/
theorem wp_test {m : ME} {Γ : Env} {s : S} {L : Loc} {F H : Hp} {Q : Bool → Hp → Prop} {P : V → Hp → Prop} (h : wp (evalT m Γ s) (okAt rB Q L F H) (Kx X.mg E L F H))
    (k : ∀ d v s1 L1 F1 H1 b, WOk L1 s1 F1 H1 → Ext L F H L1 F1 H1 → DV L1 F1 d v → D.truthy d = some b → Q b H1 → P v H1) : wp (eval m Γ s) (okAt rD P L F H) (Kx X.mg E L F H) := by
  unfold evalT at h
  refine wp_then h fun d v s1 L1 F1 H1 w1 e1 r1 h1 => ?_
  rw [wp_opt] at h1
  obtain ⟨b, e, h1⟩ := h1
  exact k d v s1 L1 F1 H1 b w1 e1 r1 e (h1 b L1 F1 H1 w1 (Ext.refl ..) rfl)
theorem st_cmp {o : Cop} (hu : X.A.units + 200 < cLine) (ha : PE X ea (tEv X.mg E a)) (hb : PE X eb (tEv X.mg E b)) (hm : behindInMarks (cOf o) eb = false) : PT X (.Compare ea [cOf o] [eb] pos) (tTv X.mg E (.cmp o a b)) := by
  refine PT.imp (pt_cmpR (cmp_ok hu o) ha hb hm) fun σ H Q ⟨Γ, s, L, F, L0, F0, H0, R, h⟩ => ?_
  unfold evalT at h
  simp only [eval, M.assoc] at h
  refine ⟨Γ, s, L, F, L0, F0, H0, R, wp_then h fun x v s1 L1 F1 H1 w1 e1 r1 h1 => ⟨Γ, s1, L1, F1, L0, F0, H0, R.ext w1 e1, wp_then h1 fun y u s2 L2 F2 H2 w2 e2 r2 h2 => ?_⟩⟩
  rw [wp_bind, wp_opt] at h2
  obtain ⟨d, e, h2⟩ := h2
  obtain ⟨k, ek, rfl⟩ := Option.map_eq_some_iff.mp e
  rw [wp_opt] at h2
  obtain ⟨k', e', h2⟩ := h2
  obtain rfl := truthy_bl e'
  exact ⟨L2, s2, F2, x, y, k', w2, e2.dv r1, r2, ek, k', rfl, h2 _ L2 F2 H2 w2 (Ext.refl ..) rfl⟩
end
end Mini

end
section
set_option linter.all false
set_option autoImplicit false
set_option maxRecDepth 100000
set_option maxHeartbeats 1000000
/-! Snd5: more of the expressions' forms. -/
namespace Mini
open PySem PySem.Spec L2
open PyProof.Rows hiding St
variable [KFrag]
section
variable {X : Cx} {N : List Str} {sc : Scope} {E : XK} {a b c : ME} {ea eb ec : Expr} {pos : Pos}

/-! ### chains -/
theorem lastMarks2 {o o' : CmpOp} {b c : Expr} (h : behindInMarks o' c = false) : lastMarks [o, o'] [b, c] = false := by
  simp only [lastMarks]; exact h
theorem s_cmp2 {o o' : Cop} (hu : X.A.units + 200 < cLine) (ha : PE X ea (tEv X.mg E a)) (hb : PE X eb (tEv X.mg E b)) (hc : PE X ec (tEv X.mg E c)) (hm : behindInMarks (cOf o') ec = false) :
    PE X (.Compare ea [cOf o, cOf o'] [eb, ec] pos) (tEv X.mg E (.cmp2 o o' a b c)) := by
  refine PE.imp (pe_chain (cmp_ok hu o) (cmp_ok hu o') ha hb hc (lastMarks2 hm)) fun σ H Q ⟨Γ, s, L, F, L0, F0, H0, R, h⟩ => ?_
  simp only [eval] at h
  refine ⟨Γ, s, L, F, L0, F0, H0, R, wp_then h fun x v s1 L1 F1 H1 w1 e1 r1 h1 => ⟨Γ, s1, L1, F1, L0, F0, H0, R.ext w1 e1, wp_then h1 fun y u s2 L2 F2 H2 w2 e2 r2 h2 => ?_⟩⟩
  rw [wp_bind, wp_opt] at h2
  obtain ⟨k, ek, h2⟩ := h2
  refine ⟨L2, s2, F2, x, y, k, w2, e2.dv r1, r2, ek, k, rfl, ?_⟩
  cases k with
  | false => exact h2 _ L2 F2 H2 w2 (Ext.refl ..) rfl
  | true =>
    rw [if_pos rfl] at h2 ⊢
    refine ⟨Γ, s2, L2, F2, L0, F0, H0, (R.ext w1 e1).ext w2 e2, wp_then h2 fun z t s3 L3 F3 H3 w3 e3 r3 h3 => ?_⟩
    rw [wp_opt] at h3
    obtain ⟨d, e, h3⟩ := h3
    obtain ⟨k', ek', rfl⟩ := Option.map_eq_some_iff.mp e
    exact ⟨L3, s3, F3, y, z, k', w3, e3.dv r2, r3, ek', h3 _ L3 F3 H3 w3 (Ext.refl ..) rfl⟩
theorem st_cmp2 {o o' : Cop} (hu : X.A.units + 200 < cLine) (ha : PE X ea (tEv X.mg E a)) (hb : PE X eb (tEv X.mg E b)) (hc : PE X ec (tEv X.mg E c)) (hm : behindInMarks (cOf o') ec = false) :
    PT X (.Compare ea [cOf o, cOf o'] [eb, ec] pos) (tTv X.mg E (.cmp2 o o' a b c)) := by
  refine PT.imp (pt_chain (cmp_ok hu o) (cmp_ok hu o') ha hb hc (lastMarks2 hm)) fun σ H Q ⟨Γ, s, L, F, L0, F0, H0, R, h⟩ => ?_
  unfold evalT at h
  simp only [eval, M.assoc] at h
  refine ⟨Γ, s, L, F, L0, F0, H0, R, wp_then h fun x v s1 L1 F1 H1 w1 e1 r1 h1 => ⟨Γ, s1, L1, F1, L0, F0, H0, R.ext w1 e1, wp_then h1 fun y u s2 L2 F2 H2 w2 e2 r2 h2 => ?_⟩⟩
  rw [wp_bind, wp_opt] at h2
  obtain ⟨k, ek, h2⟩ := h2
  refine ⟨L2, s2, F2, x, y, k, w2, e2.dv r1, r2, ek, k, rfl, ?_⟩
  cases k with
  | false =>
    exact ⟨false, rfl, h2 _ L2 F2 H2 w2 (Ext.refl ..) rfl⟩
  | true =>
    simp only [if_true, M.assoc] at h2 ⊢
    refine ⟨Γ, s2, L2, F2, L0, F0, H0, (R.ext w1 e1).ext w2 e2, wp_then h2 fun z t s3 L3 F3 H3 w3 e3 r3 h3 => ?_⟩
    rw [wp_bind, wp_opt] at h3
    obtain ⟨d, e, h3⟩ := h3
    obtain ⟨k', ek', rfl⟩ := Option.map_eq_some_iff.mp e
    rw [wp_opt] at h3
    obtain ⟨k2, e2', h3⟩ := h3
    obtain rfl := truthy_bl e2'
    exact ⟨L3, s3, F3, y, z, k2, w3, e3.dv r2, r3, ek', k2, rfl, h3 _ L3 F3 H3 w3 (Ext.refl ..) rfl⟩

/-! ### and, or, not, a if t else b -/
theorem s_and {rest : List Expr} (ha : PE X ea (tEv X.mg E a)) (hb : PE X (.BoolOp .And (eb :: rest) pos) (tEv X.mg E b)) : PE X (.BoolOp .And (ea :: eb :: rest) pos) (tEv X.mg E (.andE a b)) := by
  refine PE.imp (pe_and ha hb) fun σ H Q ⟨Γ, s, L, F, L0, F0, H0, R, h⟩ => ?_
  simp only [eval] at h
  refine ⟨Γ, s, L, F, L0, F0, H0, R, wp_then h fun x v s1 L1 F1 H1 w1 e1 r1 h1 => ?_⟩
  cases x <;> first | exact h1.elim | skip
  rename_i k
  have r1 : v = .bl k := r1
  refine ⟨k, r1, ?_⟩
  cases k with
  | true => exact ⟨Γ, s1, L1, F1, L0, F0, H0, R.ext w1 e1, h1⟩
  | false => exact h1 _ L1 F1 H1 w1 (Ext.refl ..) rfl
theorem s_or {rest : List Expr} (ha : PE X ea (tEv X.mg E a)) (hb : PE X (.BoolOp .Or (eb :: rest) pos) (tEv X.mg E b)) : PE X (.BoolOp .Or (ea :: eb :: rest) pos) (tEv X.mg E (.orE a b)) := by
  refine PE.imp (pe_or ha hb) fun σ H Q ⟨Γ, s, L, F, L0, F0, H0, R, h⟩ => ?_
  simp only [eval] at h
  refine ⟨Γ, s, L, F, L0, F0, H0, R, wp_then h fun x v s1 L1 F1 H1 w1 e1 r1 h1 => ?_⟩
  cases x <;> first | exact h1.elim | skip
  rename_i k
  have r1 : v = .bl k := r1
  refine ⟨k, r1, ?_⟩
  cases k with
  | false => exact ⟨Γ, s1, L1, F1, L0, F0, H0, R.ext w1 e1, h1⟩
  | true => exact h1 _ L1 F1 H1 w1 (Ext.refl ..) rfl
theorem s_not (ha : PE X ea (tEv X.mg E a)) : PE X (.UnaryOp .Not ea pos) (tEv X.mg E (.notE a)) := by
  refine PE.imp (pe_not ha) fun σ H Q ⟨Γ, s, L, F, L0, F0, H0, R, h⟩ => ?_
  simp only [eval] at h
  refine ⟨Γ, s, L, F, L0, F0, H0, R, wp_then h fun x v s1 L1 F1 H1 w1 e1 r1 h1 => ?_⟩
  cases x <;> first | exact h1.elim | skip
  rename_i k
  have r1 : v = .bl k := r1
  exact ⟨k, r1, h1 _ L1 F1 H1 w1 (Ext.refl ..) rfl⟩
theorem evalT_and {Γ : Env} : evalT (.andE a b) Γ = M.bind (eval a Γ) fun x => match x with | .bl true => evalT b Γ | .bl false => M.ret false | _ => M.bad := by
  unfold evalT
  simp only [eval, M.assoc]
  congr 1
  funext x s
  cases x <;> first | rfl | (rename_i k; cases k <;> rfl)
theorem evalT_or {Γ : Env} : evalT (.orE a b) Γ = M.bind (eval a Γ) fun x => match x with | .bl true => M.ret true | .bl false => evalT b Γ | _ => M.bad := by
  unfold evalT
  simp only [eval, M.assoc]
  congr 1
  funext x s
  cases x <;> first | rfl | (rename_i k; cases k <;> rfl)
theorem evalT_not {Γ : Env} : evalT (.notE a) Γ = M.bind (eval a Γ) fun x => match x with | .bl k => M.ret (!k) | _ => M.bad := by
  unfold evalT
  simp only [eval, M.assoc]
  congr 1
  funext x s
  cases x <;> rfl
theorem evalT_ife {t : ME} {Γ : Env} : evalT (.ife t a b) Γ = M.bind (evalT t Γ) fun k => if k then evalT a Γ else evalT b Γ := by
  unfold evalT
  simp only [eval, M.assoc]
  congr 1
  funext x
  congr 1
  funext k
  cases k <;> rfl
/-- from a value's computation to its test -/
theorem wp_bl {m : ME} {Γ : Env} {s : S} {L : Loc} {F H : Hp} {P : Bool → Hp → Prop} {ok : D → S → Prop} (h : wp (eval m Γ s) ok (Kx X.mg E L F H))
    (k : ∀ d s1, ok d s1 → ∃ b, d = .bl b ∧ okAt rB P L F H b s1) : wp (evalT m Γ s) (okAt rB P L F H) (Kx X.mg E L F H) := by
  unfold evalT
  rw [wp_bind]
  refine wp_mono h (fun d s1 h1 => ?_) fun _ _ z => z
  obtain ⟨b, rfl, h2⟩ := k d s1 h1
  exact h2
theorem st_and {rest : List Expr} (ha : PT X ea (tTv X.mg E a)) (hb : PW X (.BoolOp .And (eb :: rest) pos) (tTv X.mg E b)) : PW X (.BoolOp .And (ea :: eb :: rest) pos) (tTv X.mg E (.andE a b)) := by
  refine ⟨fun wh pins s σ H Q I h => (pw_and ha hb).run wh pins s σ H Q I ?_⟩
  obtain ⟨Γ, s, L, F, L0, F0, H0, R, h⟩ := h
  rw [evalT_and, wp_bind] at h
  refine ⟨Γ, s, L, F, L0, F0, H0, R, wp_bl h fun d s1 h1 => ?_⟩
  cases d <;> first | exact h1.elim | skip
  rename_i k
  refine ⟨k, rfl, fun b' L1 F1 H1 w1 e1 eb => ?_⟩
  obtain rfl : k = b' := eb
  cases k with
  | true => exact ⟨Γ, s1, L1, F1, L0, F0, H0, R.ext w1 e1, wp_mono h1 (fun _ _ z => okAt.ext z e1) fun _ _ z => z.ext e1⟩
  | false => exact h1 _ L1 F1 H1 w1 e1 rfl
theorem st_or {rest : List Expr} (ha : PT X ea (tTv X.mg E a)) (hb : PW X (.BoolOp .Or (eb :: rest) pos) (tTv X.mg E b)) : PW X (.BoolOp .Or (ea :: eb :: rest) pos) (tTv X.mg E (.orE a b)) := by
  refine ⟨fun wh pins s σ H Q I h => (pw_or ha hb).run wh pins s σ H Q I ?_⟩
  obtain ⟨Γ, s, L, F, L0, F0, H0, R, h⟩ := h
  rw [evalT_or, wp_bind] at h
  refine ⟨Γ, s, L, F, L0, F0, H0, R, wp_bl h fun d s1 h1 => ?_⟩
  cases d <;> first | exact h1.elim | skip
  rename_i k
  refine ⟨k, rfl, fun b' L1 F1 H1 w1 e1 eb => ?_⟩
  obtain rfl : k = b' := eb
  cases k with
  | false => exact ⟨Γ, s1, L1, F1, L0, F0, H0, R.ext w1 e1, wp_mono h1 (fun _ _ z => okAt.ext z e1) fun _ _ z => z.ext e1⟩
  | true => exact h1 _ L1 F1 H1 w1 e1 rfl
theorem st_not (ha : PT X ea (tTv X.mg E a)) : PT X (.UnaryOp .Not ea pos) (tTv X.mg E (.notE a)) := by
  refine PT.imp (pt_not ha) fun σ H Q ⟨Γ, s, L, F, L0, F0, H0, R, h⟩ => ?_
  rw [evalT_not, wp_bind] at h
  refine ⟨Γ, s, L, F, L0, F0, H0, R, wp_bl h fun d s1 h1 => ?_⟩
  cases d <;> first | exact h1.elim | skip
  rename_i k
  refine ⟨k, rfl, fun b' L1 F1 H1 w1 e1 eb => ?_⟩
  obtain rfl : k = b' := eb
  exact h1 _ L1 F1 H1 w1 e1 rfl
/-- a test's computation, further -/
theorem wp_thenT {γ δ : Type} {t : ME} {Γ : Env} {r2 : Loc → Hp → γ → δ → Prop} {g : Bool → M γ} {s : S} {L : Loc} {F H : Hp} {Q : δ → Hp → Prop} {P : Bool → Hp → Prop}
    (h : wp (M.bind (evalT t Γ) g s) (okAt r2 Q L F H) (Kx X.mg E L F H))
    (k : ∀ b s1 L1 F1 H1, WOk L1 s1 F1 H1 → Ext L F H L1 F1 H1 → wp (g b s1) (okAt r2 Q L1 F1 H1) (Kx X.mg E L1 F1 H1) → P b H1) :
    wp (evalT t Γ s) (okAt rB P L F H) (Kx X.mg E L F H) :=
  wp_then (r := rB) h fun a b s1 L1 F1 H1 w1 e1 r1 h1 => by
    obtain rfl : a = b := r1
    exact k a s1 L1 F1 H1 w1 e1 h1
theorem eval_ife {t : ME} {Γ : Env} : eval (.ife t a b) Γ = M.bind (evalT t Γ) fun k => if k then eval a Γ else eval b Γ := by
  unfold evalT
  simp only [eval, M.assoc]
theorem s_ife {t : ME} {et : Expr} (ht : PT X et (tTv X.mg E t)) (ha : PE X ea (tEv X.mg E a)) (hb : PE X eb (tEv X.mg E b)) : PE X (.IfExp et ea eb pos) (tEv X.mg E (.ife t a b)) := by
  refine PE.imp (pe_ifExp ht ha hb) fun σ H Q ⟨Γ, s, L, F, L0, F0, H0, R, h⟩ => ?_
  rw [eval_ife] at h
  refine ⟨Γ, s, L, F, L0, F0, H0, R, wp_thenT h fun k s1 L1 F1 H1 w1 e1 h1 => ?_⟩
  cases k with
  | true => exact ⟨Γ, s1, L1, F1, L0, F0, H0, R.ext w1 e1, h1⟩
  | false => exact ⟨Γ, s1, L1, F1, L0, F0, H0, R.ext w1 e1, h1⟩
theorem st_ife {t : ME} {et : Expr} (ht : PT X et (tTv X.mg E t)) (ha : PT X ea (tTv X.mg E a)) (hb : PT X eb (tTv X.mg E b)) : PT X (.IfExp et ea eb pos) (tTv X.mg E (.ife t a b)) := by
  refine ⟨fun pins s σ H Q I h => ?_⟩
  obtain ⟨Γ, st, L, F, L0, F0, H0, R, h⟩ := h
  rw [evalT_ife] at h
  rw [arm_isTrue_IfExp]
  have q : tTv X.mg E t σ H (fun k H1 => if k = true then tTv X.mg E a σ H1 Q else tTv X.mg E b σ H1 Q) := ⟨Γ, st, L, F, L0, F0, H0, R, wp_thenT h fun k s1 L1 F1 H1 w1 e1 h1 => by
    cases k with
    | true => exact ⟨Γ, s1, L1, F1, L0, F0, H0, R.ext w1 e1, h1⟩
    | false => exact ⟨Γ, s1, L1, F1, L0, F0, H0, R.ext w1 e1, h1⟩⟩
  refine wpAny_bind (thn (ht.run pins s σ H _ I q) fun k s1 ⟨H1, I1, q1⟩ => ?_)
  cases k with
  | true => exact ha.run pins s1 σ H1 Q I1 q1
  | false => exact hb.run pins s1 σ H1 Q I1 q1
/-- a test by a value's truth -/
theorem st_val (ha : PE X ea (tEv X.mg E a)) (he : ∀ whole, isTrue ea X.env whole = (do let v ← whole; standAt ea.pos; holding [v] (truthy v))) : PT X ea (tTv X.mg E a) := by
  refine PT.imp (pt_truth ha he) fun σ H Q ⟨Γ, s, L, F, L0, F0, H0, R, h⟩ => ?_
  refine ⟨Γ, s, L, F, L0, F0, H0, R, wp_test h fun d v s1 L1 F1 H1 b w1 e1 r1 et q => ⟨b, ?_, q⟩⟩
  cases d <;> simp only [D.truthy, Option.some.injEq, reduceCtorEq] at et
  · have r1 : v = .bl _ := r1
    subst r1
    exact et.symm
  · obtain ⟨p, vs, rfl, h2, h3⟩ := r1
    refine .inl ⟨vs, SqL.of (w1.sub _ _ h2), ?_⟩
    rw [← et]
    cases h3' : vs with
    | nil =>
      subst h3'
      have := h3.len
      rw [List.eq_nil_of_length_eq_zero this]
      rfl
    | cons y ys =>
      subst h3'
      have := h3.len
      rename_i xs
      cases xs with
      | nil => simp at this
      | cons => rfl

/-! ### argument lists, displays -/
def plainE : Expr → Bool
  | .Starred _ _ => false
  | _ => true
theorem star_plain {e : Expr} {es : List Expr} {env : PySem.Env} (h : plainE e = true) : starEach (e :: es) env = (false, PySem.eval e env) :: starEach es env := by
  cases e <;> first | rfl | (cases h; done)
theorem evals_append {as bs : List ME} {Γ : Env} : evals (as ++ bs) Γ = M.bind (evals as Γ) fun xs => M.bind (evals bs Γ) fun ys => M.ret (xs ++ ys) := by
  induction as with
  | nil =>
    funext s
    simp only [List.nil_append, evals, M.bind, M.ret, Res.andThen]
    cases evals bs Γ s <;> rfl
  | cons a as ih =>
    simp only [List.cons_append, evals, ih, M.assoc]
    rfl
theorem sa_nil : PA X [] (tEvs X.mg E []) := by
  refine PA.imp pa_nil fun σ H Q ⟨Γ, s, L, F, L0, F0, H0, R, h⟩ => ?_
  exact h [] L F H R.w (Ext.refl ..) rfl
theorem sa_cons {es : List Expr} {as : List ME} (ha : PE X ea (tEv X.mg E a)) (hr : PA X es (tEvs X.mg E as)) (hp : plainE ea = true) : PA X (ea :: es) (tEvs X.mg E (a :: as)) := by
  refine PA.imp (pa_cons ha hr (star_plain hp)) fun σ H Q ⟨Γ, s, L, F, L0, F0, H0, R, h⟩ => ?_
  simp only [evals] at h
  refine ⟨Γ, s, L, F, L0, F0, H0, R, wp_then h fun x v s1 L1 F1 H1 w1 e1 r1 h1 => ⟨Γ, s1, L1, F1, L0, F0, H0, R.ext w1 e1, wp_then (r := rDs) h1 fun y u s2 L2 F2 H2 w2 e2 r2 h2 => ?_⟩⟩
  exact h2 (v :: u) L2 F2 H2 w2 (Ext.refl ..) ⟨v, u, rfl, e2.dv r1, r2⟩
theorem sk_nil : PK X [] (tEvs X.mg E []) := by
  refine PK.imp pk_nil fun σ H Q ⟨Γ, s, L, F, L0, F0, H0, R, h⟩ => ?_
  exact h [] L F H R.w (Ext.refl ..) rfl
theorem sk_cons {ks : List Keyword} {as : List ME} {nm : Option Str} {kpos : Pos} (ha : PE X ea (tEv X.mg E a)) (hr : PK X ks (tEvs X.mg E as)) : PK X (⟨nm, ea, kpos⟩ :: ks) (tEvs X.mg E (a :: as)) := by
  refine PK.imp (pk_cons ha hr) fun σ H Q ⟨Γ, s, L, F, L0, F0, H0, R, h⟩ => ?_
  simp only [evals] at h
  refine ⟨Γ, s, L, F, L0, F0, H0, R, wp_then h fun x v s1 L1 F1 H1 w1 e1 r1 h1 => ⟨Γ, s1, L1, F1, L0, F0, H0, R.ext w1 e1, wp_then (r := rDs) h1 fun y u s2 L2 F2 H2 w2 e2 r2 h2 => ?_⟩⟩
  exact h2 (v :: u) L2 F2 H2 w2 (Ext.refl ..) ⟨v, u, rfl, e2.dv r1, r2⟩
theorem wp_len {as : List ME} {Γ : Env} {s : S} {ok : List D → S → Prop} {er : Str → S → Prop} (h : wp (evals as Γ s) ok er) : wp (evals as Γ s) (fun xs s' => xs.length = as.length ∧ ok xs s') er := by
  induction as generalizing s ok with
  | nil => exact ⟨rfl, h⟩
  | cons a as ih =>
    simp only [evals] at h ⊢
    rw [wp_bind] at h ⊢
    refine wp_mono h (fun x s1 h1 => ?_) fun _ _ z => z
    rw [wp_bind] at h1 ⊢
    refine wp_mono (ih h1) (fun xs s2 h2 => ?_) fun _ _ z => z
    exact ⟨by rw [List.length_cons, List.length_cons, h2.1], h2.2⟩
theorem small_line {n : Nat} (h : n ≤ 1000) : n ≤ sizeLine := Nat.le_of_lt (small1000 h)
theorem s_tup {es : List Expr} {as : List ME} {k : Nat} (ha : PA X es (tEvs X.mg E as)) (hz : as.length ≤ 1000) : PE X (.Tuple es k pos) (tEv X.mg E (.tup as)) := by
  refine PE.imp (pe_tup ha) fun σ H Q ⟨Γ, s, L, F, L0, F0, H0, R, h⟩ => ?_
  simp only [eval] at h
  rw [wp_bind] at h
  refine ⟨Γ, s, L, F, L0, F0, H0, R, wp_mono (wp_len h) (fun xs s1 h1 vs L1 F1 H1 w1 e1 r1 => ⟨?_, fun p hp => ?_⟩) fun _ _ z => z⟩
  · have r1 : DVs L1 F1 xs vs := r1
    rw [← r1.len, h1.1]; exact small_line hz
  · exact (Give.of (okAt.ext h1.2 e1)).tup w1 r1 hp
theorem s_lst {es : List Expr} {as : List ME} (ha : PA X es (tEvs X.mg E as)) (hz : as.length ≤ 1000) : PE X (.List es pos) (tEv X.mg E (.lst as)) := by
  refine PE.imp (pe_lst ha) fun σ H Q ⟨Γ, s, L, F, L0, F0, H0, R, h⟩ => ?_
  simp only [eval] at h
  rw [wp_bind] at h
  refine ⟨Γ, s, L, F, L0, F0, H0, R, wp_mono (wp_len h) (fun xs s1 h1 vs L1 F1 H1 w1 e1 r1 => ⟨?_, fun p hp => ?_⟩) fun _ _ z => z⟩
  · have r1 : DVs L1 F1 xs vs := r1
    rw [← r1.len, h1.1]; exact small_line hz
  · exact (Give.of (okAt.ext h1.2 e1)).lst w1 r1 hp

/-! ### calls of defs -/
/-- a def's promise: it does what m says -/
def spM (mg : Str → Option Value) (n : Nat) (m : List D → M D) : Sp := fun vs H Q E => vs.length = n ∧ ∃ L s F ds, WOk L s F H ∧ DVs L F ds vs ∧ wp (m ds s) (okAt rD Q L F H) (Kx mg E L F H)
/-- what is asked of a name that is called -/
def CallOk (X : Cx) (f : Str) (kw : List Str) (m : List D → M D) (n : Nat) : Prop := ∃ k fa fd ps, FnOk X.prog X.w X.K X.mg X.base (L2.CX X.prog X.w) k fa fd ps (spM X.mg n m) ∧ Room k X.A ∧ X.mg f = some (.ref fa) ∧ PySem.W.keepIn X.K (.ref fa) = true ∧
  ∀ (s : Shared) (us ws : List Value), X.K.In s.heap → us.length + ws.length = n → ws.length = kw.length → BindsTo s fd ⟨us, kw.zip ws⟩ (ps.zip (us ++ ws))
theorem run_m {f : Str} {kw : List Str} {m : List D → M D} {n k : Nat} {fa : Addr} {fd : FuncData} {ps : List Str} {pins : List (Addr × Obj)} {σ : L2.St} {H : Hp} {s : Shared} {Q : VK} {us ws : List Value} {vs zs : List V}
    (F : FnOk X.prog X.w X.K X.mg X.base (L2.CX X.prog X.w) k fa fd ps (spM X.mg n m)) (hr : Room k X.A) (hx : Passes (L2.CX X.prog X.w) X E) (hb : BindsTo s fd ⟨us, kw.zip ws⟩ (ps.zip (us ++ ws)))
    (I : L2.Inv X pins σ H s) (r : Vals vs us) (rz : Vals zs ws) (h : spM X.mg n m (vs ++ zs) H Q E) : wpAny (model X.prog X.w) X.A (call (.ref fa) us (kw.zip ws)) (EP X pins σ Q) X.xe s := by
  refine wpAny_call (codeAny_mono (F.run X.A X.stack s H ⟨us, kw.zip ws⟩ (us ++ ws) (vs ++ zs) Q E hr I.env0 hb (r.append rz) h) fun r s' hq => ?_)
  cases r with
  | error e => exact hx pins σ H s e s' I hq
  | ok fl =>
    cases fl with
    | ret u => exact I.after hq
    | next => exact False.elim hq
    | brk => exact False.elim hq
    | cont => exact False.elim hq
theorem star_any {es : List Expr} {env : PySem.Env} (h : es.all plainE = true) (pos : Pos) : (backTo pos (starEach es env)).any (·.1) = false := by
  induction es with
  | nil => rfl
  | cons e es ih =>
    rw [List.all_cons, Bool.and_eq_true] at h
    rw [star_plain h.1]
    show (false || (backTo pos (starEach es env)).any (·.1)) = false
    rw [ih h.2]; rfl
theorem kw_some {ks : List Keyword} {env : PySem.Env} {kw : List Str} (h : ks.map (·.arg) = kw.map some) (pos : Pos) :
    (backToKw pos (keywordEach ks env)).all (·.1.isSome) = true ∧ (backToKw pos (keywordEach ks env)).any (·.1.isNone) = false ∧ (backToKw pos (keywordEach ks env)).filterMap (·.1) = kw := by
  induction ks generalizing kw with
  | nil =>
    cases kw with
    | nil => exact ⟨rfl, rfl, rfl⟩
    | cons => cases h
  | cons k ks ih =>
    obtain ⟨nm, e, p⟩ := k
    cases kw with
    | nil => cases h
    | cons x kw =>
      rw [List.map_cons, List.map_cons] at h
      obtain ⟨h1, h2⟩ := List.cons.inj h
      have h1 : nm = some x := h1
      subst h1
      obtain ⟨i1, i2, i3⟩ := ih h2
      refine ⟨?_, ?_, ?_⟩
      · show (true && (backToKw pos (keywordEach ks env)).all (·.1.isSome)) = true
        rw [i1]; rfl
      · show (false || (backToKw pos (keywordEach ks env)).any (·.1.isNone)) = false
        rw [i2]; rfl
      · show x :: (backToKw pos (keywordEach ks env)).filterMap (·.1) = x :: kw
        rw [i3]
theorem s_call {f x : Str} {kw : List Str} {m : List D → M D} {as bs : List ME} {es : List Expr} {ks : List Keyword} {p : Pos} (hx : Passes (L2.CX X.prog X.w) X E) (C : CallOk X f kw m (as ++ bs).length) (hf : x = f) (hg : Gl X x)
    (hdb : (x == ("__debug__" : Str)) = false) (ha : PA X es (tEvs X.mg E as)) (hk : PK X ks (tEvs X.mg E bs)) (hp : es.all plainE = true) (hkw : ks.map (·.arg) = kw.map some) (hl : bs.length = kw.length) (hle : es.length = as.length) :
    PE X (.Call (.Name x p) es ks pos) (tEv X.mg E (.call f kw m (as ++ bs))) := by
  subst hf
  obtain ⟨k, fa, fd, ps, FO, hr, hm, hke, hb⟩ := C
  obtain ⟨k1, k2, k3⟩ := kw_some (env := X.env) hkw pos
  have hst := star_any (env := X.env) hp pos
  refine ⟨fun pins s σ H Q I h => ?_⟩
  obtain ⟨Γ, st, L, F, L0, F0, H0, R, h⟩ := h
  simp only [eval, evals_append, M.assoc] at h
  have ta : tEvs X.mg E as σ H (fun vs H1 => tEvs X.mg E bs σ H1 fun zs H2 => vs.length = as.length ∧ zs.length = bs.length ∧ spM X.mg (as ++ bs).length m (vs ++ zs) H2 Q E) := by
    rw [wp_bind] at h
    refine ⟨Γ, st, L, F, L0, F0, H0, R, wp_mono (wp_len h) (fun xs s1 h1 vs L1 F1 H1 w1 e1 r1 => ?_) fun _ _ z => z⟩
    obtain ⟨l1, h1⟩ := h1
    rw [wp_bind] at h1
    refine ⟨Γ, s1, L1, F1, L0, F0, H0, R.ext w1 e1, wp_mono (wp_len h1) (fun ys s2 h2 zs L2 F2 H2 w2 e2 r2 => ?_) fun _ _ z => z.ext e1⟩
    obtain ⟨l2, h2⟩ := h2
    have r1 : DVs L1 F1 xs vs := r1
    have r2 : DVs L2 F2 ys zs := r2
    refine ⟨by rw [← r1.len, l1], by rw [← r2.len, l2], by rw [List.length_append, List.length_append, ← r1.len, ← r2.len, l1, l2], L2, s2, F2, xs ++ ys, w2, (e2.dvs r1).append r2, ?_⟩
    have h2 : wp (m (xs ++ ys) s2) _ _ := h2
    exact wp_mono h2 (fun d s3 h3 => okAt.ext h3 (e1.trans e2)) fun _ _ z => (z.ext e1).ext e2
  refine wpAny_Call_Name_kw (ld_glob I hg hm ?_ hdb)
  cases es with
  | nil =>
    refine PySem.W.callWith_KW0 (h₀ := X.base) I.ok.mod.kin hke k1 ?_ (by rw [k2]; rfl)
    obtain rfl : as = [] := List.eq_nil_of_length_eq_zero hle.symm
    have tb : tEvs X.mg E bs σ H (fun zs H2 => zs.length = bs.length ∧ spM X.mg bs.length m zs H2 Q E) := by
      have h : wp (M.bind (evals bs Γ) (fun ys => M.bind (M.ret ([] ++ ys)) m) st) _ _ := h
      rw [wp_bind] at h
      refine ⟨Γ, st, L, F, L0, F0, H0, R, wp_mono (wp_len h) (fun ys s2 h2 zs L2 F2 H2 w2 e2 r2 => ?_) fun _ _ z => z⟩
      obtain ⟨l2, h2⟩ := h2
      have r2 : DVs L2 F2 ys zs := r2
      refine ⟨by rw [← r2.len, l2], by rw [← r2.len, l2], L2, s2, F2, ys, w2, r2, ?_⟩
      have h2 : wp (m ys s2) _ _ := h2
      exact wp_mono h2 (fun d s3 h3 => okAt.ext h3 e2) fun _ _ z => z.ext e2
    refine thn (hk.run pos pins s σ H _ I tb) fun ws s2 ⟨zs, H2, I2, rz, l2, q2⟩ => ⟨I2.kIn, ?_⟩
    rw [k3]
    exact run_m (f := x) (kw := kw) (us := []) FO hr hx (hb s2 [] ws I2.kIn (by rw [← rz.length, l2]; simp) (by rw [← rz.length, l2, hl])) I2 .nil rz q2
  | cons e es =>
    rw [List.all_cons, Bool.and_eq_true] at hp
    refine PySem.W.callWith_KW (h₀ := X.base) I.ok.mod.kin hke k1 (thn (ha.run pos pins s σ H _ I ta) fun us s1 ⟨vs, H1, I1, r, q⟩ => ?_) (by rw [hst, k2]; rfl) (star_plain hp.1)
    refine thn (hk.run pos pins s1 σ H1 _ I1 q) fun ws s2 ⟨zs, H2, I2, rz, l1, l2, q2⟩ => ⟨I2.kIn, ?_⟩
    rw [k3]
    exact run_m (f := x) (kw := kw) FO hr hx (hb s2 us ws I2.kIn (by rw [← r.length, ← rz.length, l1, l2, List.length_append]) (by rw [← rz.length, l2, hl])) I2 r rz q2
end
end Mini

end
section
set_option linter.all false
set_option autoImplicit false
set_option maxRecDepth 100000
set_option maxHeartbeats 1000000
/-! Snd6: built-ins called, isinstance, subscripts, what is walked, targets, comprehensions. -/
namespace Mini
open PySem PySem.Spec L2
open PyProof.Rows hiding St
variable [KFrag]
section
variable {X : Cx} {N : List Str} {sc : Scope} {E : XK} {a b c : ME} {ea eb ec : Expr} {pos : Pos}

/-! ### built-ins -/
theorem s_bltB {f : Bf} {id : String} {x : Str} {e : Expr} {es : List Expr} {as : List ME} {p : Pos} (hc : CallR X (.builtin id) (rBlt f)) (hg : Gl X x) (hm : X.mg x = none) (hv : bootBuiltins x = some (.builtin id)) (hn : x ≠ "__name__") (hdb : (x == ("__debug__" : Str)) = false)
    (ha : PA X (e :: es) (tEvs X.mg E as)) (hp : (e :: es).all plainE = true) : PE X (.Call (.Name x p) (e :: es) [] pos) (tEv X.mg E (.blt f as)) := by
  rw [List.all_cons, Bool.and_eq_true] at hp
  refine PE.imp (pe_callB hc hg hm hv ha hn hdb (star_plain hp.1) (star_any hp.2 _)) fun σ H Q ⟨Γ, s, L, F, L0, F0, H0, R, h⟩ => ?_
  simp only [eval] at h
  refine ⟨Γ, s, L, F, L0, F0, H0, R, wp_then (r := rDs) h fun xs v s1 L1 F1 H1 w1 e1 r1 h1 => ?_⟩
  rw [wp_opt] at h1
  obtain ⟨d, e, h1⟩ := h1
  exact ⟨L1, s1, F1, xs, d, w1, r1, e, Give.of h1⟩
theorem s_bltT {f : Bf} {T : String} {x : Str} {e : Expr} {es : List Expr} {as : List ME} {p : Pos} (hc : CallR X (.type T) (rBlt f)) (hg : Gl X x) (hm : X.mg x = none) (hv : bootBuiltins x = some (.type T)) (hn : x ≠ "__name__") (hdb : (x == ("__debug__" : Str)) = false)
    (ha : PA X (e :: es) (tEvs X.mg E as)) (hp : (e :: es).all plainE = true) : PE X (.Call (.Name x p) (e :: es) [] pos) (tEv X.mg E (.blt f as)) := by
  rw [List.all_cons, Bool.and_eq_true] at hp
  refine PE.imp (pe_callTy hc hg hm hv ha hn hdb (star_plain hp.1) (star_any hp.2 _)) fun σ H Q ⟨Γ, s, L, F, L0, F0, H0, R, h⟩ => ?_
  simp only [eval] at h
  refine ⟨Γ, s, L, F, L0, F0, H0, R, wp_then (r := rDs) h fun xs v s1 L1 F1 H1 w1 e1 r1 h1 => ?_⟩
  rw [wp_opt] at h1
  obtain ⟨d, e, h1⟩ := h1
  exact ⟨L1, s1, F1, xs, d, w1, r1, e, Give.of h1⟩
/-! ### isinstance -/
def tyName : Ty → String
  | .int => "int" | .bool => "bool" | .tuple => "tuple" | .str => "str"
def tyOf : D → String
  | .non => "NoneType" | .bl _ => "bool" | .int _ => "int" | .str _ => "str" | .tup _ => "tuple" | _ => "list"
theorem kitT (d : D) (t : Ty) (h1 : ∀ n, d ≠ .obj n) : PySem.W.kitOne X.K (.type (tyOf d)) (.type (tyName t)) = some (isTy d t) := by
  have e : kitB (tyOf d) (tyName t) = some (isTy d t) := by
    cases d <;> cases t <;> first | rfl | decide +kernel
  exact kit_ty e
theorem s_isi {t : Ty} {p p1 : Pos} {x y : Str} (hg : Gl X x) (hx : x = "isinstance") (hm : X.mg "isinstance" = none) (hg1 : Gl X y) (hy : y = Str.ofString (tyName t)) (hm1 : X.mg y = none) (hp : plainE ea = true) (ha : PE X ea (tEv X.mg E a)) :
    PE X (.Call (.Name x p) [ea, .Name y p1] [] pos) (tEv X.mg E (.isi a t)) := by
  subst hx
  have hv : bootBuiltins y = some (.type (tyName t)) := by
    subst hy
    cases t <;> decide +kernel
  have hn : y ≠ "__name__" := by
    subst hy
    cases t <;> decide +kernel
  have hd : (y == ("__debug__" : Str)) = false := by
    subst hy
    cases t <;> decide +kernel
  have hT : PE X (.Name y p1) (tC (.ty (tyName t))) := pe_bltn hg1 hm1 hv rfl hn hd
  refine PE.imp (pe_callB call_isi hg hm (by decide +kernel) (pa_cons ha (pa_cons hT pa_nil rfl) (star_plain hp)) (by decide +kernel) (by decide +kernel) (star_plain hp) rfl) fun σ H Q ⟨Γ, s, L, F, L0, F0, H0, R, h⟩ => ?_
  simp only [eval] at h
  refine ⟨Γ, s, L, F, L0, F0, H0, R, wp_then h fun d v s1 L1 F1 H1 w1 e1 r1 h1 => ?_⟩
  have fin : ∀ (ty : TyX X.K H1 v (.type (tyOf d))), (∀ n, d ≠ .obj n) → Q (.bl (isTy d t)) H1 → rIsi X.K [v, .ty (tyName t)] H1 Q := fun ty ne q =>
    ⟨v, _, _, _, _, rfl, .ty _, ty, kitT d t ne, q⟩
  cases d with
  | non =>
    have r1 : v = .non := r1
    subst r1
    exact fin (.base .non) (fun _ z => nomatch z) (h1 _ L1 F1 H1 w1 (Ext.refl ..) rfl)
  | bl k =>
    have r1 : v = .bl k := r1
    subst r1
    exact fin (.base (.bl k)) (fun _ z => nomatch z) (h1 _ L1 F1 H1 w1 (Ext.refl ..) rfl)
  | int k =>
    have r1 : v = .int k := r1
    subst r1
    exact fin (.base (.int k)) (fun _ z => nomatch z) (h1 _ L1 F1 H1 w1 (Ext.refl ..) rfl)
  | str k =>
    have r1 : v = .str k := r1
    subst r1
    exact fin (.base (.str k)) (fun _ z => nomatch z) (h1 _ L1 F1 H1 w1 (Ext.refl ..) rfl)
  | tup k =>
    obtain ⟨q, vs, rfl, p1, p2⟩ := r1
    exact fin (.base (.tup (w1.sub _ _ p1))) (fun _ z => nomatch z) (h1 _ L1 F1 H1 w1 (Ext.refl ..) rfl)
  | lst k =>
    obtain ⟨q, vs, rfl, p1, p2⟩ := r1
    exact fin (.base (.lst (w1.sub _ _ p1))) (fun _ z => nomatch z) (h1 _ L1 F1 H1 w1 (Ext.refl ..) rfl)
  | dic k => exact h1.elim
  | obj k => exact h1.elim
  | scr k => exact h1.elim

/-! ### subscripts and slices -/
theorem atI_v {L : Loc} {F : Hp} {ds : List D} {vs : List V} {i : Int} {d : D} (h : DVs L F ds vs) (e : Mini.atI ds i = some d) : ∃ v, L2.atI vs i = some v ∧ DV L F d v := by
  unfold Mini.atI at e
  obtain ⟨j, e1, e2⟩ := Option.bind_eq_some_iff.mp e
  obtain ⟨v, g1, g2⟩ := h.get e2
  refine ⟨v, ?_, g2⟩
  unfold L2.atI
  rw [← h.len]
  exact Option.bind_eq_some_iff.mpr ⟨j, e1, g1⟩
def notSlice : Expr → Bool
  | .Slice _ _ _ _ => false
  | _ => true
theorem plainIx {e : Expr} (h : notSlice e = true) : PlainIx e := by
  cases e <;> first | exact fun _ _ => rfl | (cases h; done)
theorem s_sub (ha : PE X ea (tEv X.mg E a)) (hb : PE X eb (tEv X.mg E b)) (hs : notSlice eb = true) : PE X (.Subscript ea eb pos) (tEv X.mg E (.sub a b)) := by
  refine PE.imp (pe_ix ix_seq ha hb (plainIx hs)) fun σ H Q ⟨Γ, s, L, F, L0, F0, H0, R, h⟩ => ?_
  simp only [eval] at h
  refine ⟨Γ, s, L, F, L0, F0, H0, R, wp_then h fun x v s1 L1 F1 H1 w1 e1 r1 h1 => ⟨Γ, s1, L1, F1, L0, F0, H0, R.ext w1 e1, wp_then h1 fun y u s2 L2 F2 H2 w2 e2 r2 h2 => ?_⟩⟩
  rw [wp_opt] at h2
  obtain ⟨d, e, h2⟩ := h2
  have r1 := e2.dv r1
  cases x <;> cases y <;> simp only [subD, reduceCtorEq] at e
  · obtain ⟨p, vs, rfl, p1, p2⟩ := r1
    have r2 : u = .int _ := r2
    subst r2
    obtain ⟨z, g1, g2⟩ := atI_v p2 e
    exact .inr (.inl ⟨p, vs, _, z, rfl, rfl, SqT.of (w2.sub _ _ p1), g1, h2 _ L2 F2 H2 w2 (Ext.refl ..) g2⟩)
  · obtain ⟨p, vs, rfl, p1, p2⟩ := r1
    have r2 : u = .int _ := r2
    subst r2
    obtain ⟨z, g1, g2⟩ := atI_v p2 e
    exact .inl ⟨p, vs, _, z, rfl, rfl, SqL.of (w2.sub _ _ p1), g1, h2 _ L2 F2 H2 w2 (Ext.refl ..) g2⟩
theorem sIx_eq (n d : Nat) (o : Option Int) : Mini.sIx n d o = HT.sIx n d o := by cases o <;> rfl
theorem cut_v {L : Loc} {F : Hp} {ds : List D} {vs : List V} (h : DVs L F ds vs) (lo hi : Option Int) : DVs L F (cut ds lo hi) (cutV vs lo hi) := by
  unfold cut cutV
  rw [h.len, sIx_eq, sIx_eq]
  exact (h.drop _).take _
def rO : Loc → Hp → Option Int → Option Int → Prop := rB
theorem so_none : PO X none (tM X.mg E rO (evalO none)) := by
  refine ⟨fun pins s σ H Q I ⟨Γ, st, L, F, L0, F0, H0, R, h⟩ => po_none.run pins s σ H Q I ?_⟩
  exact h none L F H R.w (Ext.refl ..) rfl
theorem so_some (ha : PE X ea (tEv X.mg E a)) : PO X (some ea) (tM X.mg E rO (evalO (some a))) := by
  refine ⟨fun pins s σ H Q I ⟨Γ, st, L, F, L0, F0, H0, R, h⟩ => (po_some ha).run pins s σ H Q I ?_⟩
  simp only [evalO] at h
  refine ⟨Γ, st, L, F, L0, F0, H0, R, wp_then h fun x v s1 L1 F1 H1 w1 e1 r1 h1 => ?_⟩
  cases x <;> first | exact h1.elim | skip
  exact ⟨_, r1, h1 _ L1 F1 H1 w1 (Ext.refl ..) rfl⟩
theorem s_sl {lo hi : Option ME} {elo ehi : Option Expr} {p2 : Pos} (ha : PE X ea (tEv X.mg E a)) (hl : PO X elo (tM X.mg E rO (evalO lo))) (hh : PO X ehi (tM X.mg E rO (evalO hi))) : PE X (.Subscript ea (.Slice elo ehi none p2) pos) (tEv X.mg E (.sl a lo hi)) := by
  refine PE.imp (pe_slice (sl_tupA.or sl_list) ha hl hh) fun σ H Q ⟨Γ, s, L, F, L0, F0, H0, R, h⟩ => ?_
  simp only [eval] at h
  refine ⟨Γ, s, L, F, L0, F0, H0, R, wp_then h fun x v s1 L1 F1 H1 w1 e1 r1 h1 => ⟨Γ, s1, L1, F1, L0, F0, H0, R.ext w1 e1, wp_then (r := rO) h1 fun y y' s2 L2 F2 H2 w2 e2 r2 h2 =>
    ⟨Γ, s2, L2, F2, L0, F0, H0, (R.ext w1 e1).ext w2 e2, wp_then (r := rO) h2 fun z z' s3 L3 F3 H3 w3 e3 r3 h3 => ?_⟩⟩⟩
  obtain rfl : y = y' := r2
  obtain rfl : z = z' := r3
  rw [wp_opt] at h3
  obtain ⟨d, e, h3⟩ := h3
  have r1 := e3.dv (e2.dv r1)
  cases x <;> simp only [slD, reduceCtorEq] at e
  · cases e
    obtain ⟨p, vs, rfl, p1, p2⟩ := r1
    refine .inl ⟨p, vs, rfl, SqT.of (w3.sub _ _ p1), fun hw => ?_, fun _ q hq => (Give.of h3).tup w3 (cut_v p2 _ _) hq⟩
    refine (Give.of h3).here w3 ⟨p, vs, rfl, p1, ?_⟩
    have := cut_v p2 y z
    have e2 : cutV vs y z = vs := by
      unfold cutV
      rw [hw.1, hw.2]
      simp
    rw [e2] at this
    exact this
  · cases e
    obtain ⟨p, vs, rfl, p1, p2⟩ := r1
    exact .inr ⟨p, vs, rfl, SqL.of (w3.sub _ _ p1), fun q hq => (Give.of h3).lst w3 (cut_v p2 _ _) hq⟩

/-! ### what is walked -/
/-- places and what is told have grown -/
structure Gr (L : Loc) (F : Hp) (L' : Loc) (F' : Hp) : Prop where
  sub : ∀ a o, F a = some o → F' a = some o
  objs : ∀ (n : Nat) a r, L[n]? = some (a, r) → ∃ r', L'[n]? = some (a, r')
theorem Gr.refl (L : Loc) (F : Hp) : Gr L F L F := ⟨fun _ _ h => h, fun _ _ r h => ⟨r, h⟩⟩
theorem Gr.trans {L L1 L2 : Loc} {F F1 F2 : Hp} (a : Gr L F L1 F1) (b : Gr L1 F1 L2 F2) : Gr L F L2 F2 := ⟨fun x o h => b.sub x o (a.sub x o h), fun n x r h => by
  obtain ⟨r1, h1⟩ := a.objs n x r h
  exact b.objs n x r1 h1⟩
theorem Gr.dv {L L' : Loc} {F F' : Hp} (x : Gr L F L' F') {d : D} {v : V} (h : DV L F d v) : DV L' F' d v := DV.ext x.sub x.objs d v h
theorem Gr.dvs {L L' : Loc} {F F' : Hp} (x : Gr L F L' F') {ds : List D} {vs : List V} (h : DVs L F ds vs) : DVs L' F' ds vs := DVs.ext x.sub x.objs ds vs h
theorem Ext.gr {L L' : Loc} {F F' H H' : Hp} (x : Ext L F H L' F' H') : Gr L F L' F' := ⟨x.sub, x.objs⟩
/-- J walks the data ds, from L, F, H on -/
def ItD (L : Loc) (F H : Hp) (J : It) (ds : List D) : Prop := ∃ (G : Hp → Prop) (Y : Nat → Hp → V → Hp → Prop), Walk J ds.length G Y ∧
  (∀ L' s' F' H', WOk L' s' F' H' → Gr L F L' F' → G H') ∧
  ∀ (i : Nat) d L1 s1 F1 H1 x H2, ds[i]? = some d → WOk L1 s1 F1 H1 → Gr L F L1 F1 → Y i H1 x H2 → ∃ F2, WOk L1 s1 F2 H2 ∧ Ext L1 F1 H1 L1 F2 H2 ∧ DV L1 F2 d x
def itemsM (m : ME) (Γ : Env) : M (List D) := M.bind (eval m Γ) fun w => M.opt w.items
def okI (R : It → Hp → Prop) (L : Loc) (F H : Hp) : List D → S → Prop := fun ds s' => ∀ J L' F' H', WOk L' s' F' H' → Ext L F H L' F' H' → ItD L' F' H' J ds → R J H'
def tI (mg : Str → Option Value) (E : XK) (m : ME) : TI := fun σ H R => ∃ Γ s L F L0 F0 H0, Rel Γ s L F L0 F0 H0 σ H ∧ wp (itemsM m Γ s) (okI R L F H) (Kx mg E L F H)
theorem itD_list {K : PySem.W.Frag} {L : Loc} {s : S} {F H : Hp} {p : Addr} {vs : List V} {ds : List D} (w : WOk L s F H) (h1 : F p = some (.lst vs)) (h2 : DVs L F ds vs) : ItD L F H (Itl K p) ds := by
  refine ⟨_, _, h2.len ▸ walk_list, fun L' s' F' H' w' e' => SqL.of (w'.sub _ _ (e'.sub _ _ h1)), fun i d L1 s1 F1 H1 x H2 hd w1 e1 y => ?_⟩
  obtain ⟨rfl, hx⟩ := y
  obtain ⟨v, g1, g2⟩ := h2.get hd
  rw [hx] at g1
  cases g1
  exact ⟨F1, w1, Ext.refl .., e1.dv g2⟩
theorem itD_tup {K : PySem.W.Frag} {L : Loc} {s : S} {F H : Hp} {p : Addr} {vs : List V} {ds : List D} (w : WOk L s F H) (h1 : F p = some (.tup vs)) (h2 : DVs L F ds vs) : ItD L F H (Itt K p) ds := by
  refine ⟨_, _, h2.len ▸ walk_tup, fun L' s' F' H' w' e' => SqT.of (w'.sub _ _ (e'.sub _ _ h1)), fun i d L1 s1 F1 H1 x H2 hd w1 e1 y => ?_⟩
  obtain ⟨rfl, hx⟩ := y
  obtain ⟨v, g1, g2⟩ := h2.get hd
  rw [hx] at g1
  cases g1
  exact ⟨F1, w1, Ext.refl .., e1.dv g2⟩
theorem itD_range {L : Loc} {F H : Hp} {lo : Int} {n : Nat} : ItD L F H (Itr lo n) ((List.range n).map fun (i : Nat) => D.int (lo + i)) := by
  refine ⟨_, _, (by rw [List.length_map, List.length_range]; exact walk_range), fun _ _ _ _ _ _ => trivial, fun i d L1 s1 F1 H1 x H2 hd w1 e1 y => ?_⟩
  obtain ⟨rfl, rfl⟩ := y
  refine ⟨F1, w1, Ext.refl .., ?_⟩
  rw [List.getElem?_map] at hd
  by_cases hi : i < n
  · rw [List.getElem?_range hi] at hd
    cases hd
    rfl
  · rw [List.getElem?_eq_none (by simpa using hi)] at hd
    cases hd
theorem kV_ints (k : List Int) : (k.map Sum.inl : List Key).map kV = k.map V.int := by rw [List.map_map]; rfl
theorem dvs_ints {L : Loc} {F : Hp} : ∀ k : List Int, DVs L F (k.map .int) (k.map V.int)
  | [] => rfl
  | x :: k => ⟨_, _, rfl, rfl, dvs_ints k⟩
/-- a tuple that stands is told for ever -/
theorem WOk.tell {L : Loc} {s : S} {F H : Hp} {q : Addr} {xs : List V} (w : WOk L s F H) (hq : H q = some (.tup xs)) (nf : ¬ Loc.foot L q) : WOk L s (upd F q (.tup xs)) H ∧ Ext L F H L (upd F q (.tup xs)) H := by
  have hs : ∀ a x, F a = some x → upd F q (.tup xs) a = some x := fun a x h => by
    by_cases e : a = q
    · subst e
      have := w.sub a x h
      rw [hq] at this
      cases this
      exact upd_same
    · rw [upd_ne e]; exact h
  refine ⟨⟨fun a x h => ?_, w.len, fun n y a r h1 h2 => (w.objs n y a r h1 h2).keep hs fun _ _ => rfl, fun a h => ?_, w.apart⟩, ⟨hs, fun _ _ h _ => h, fun _ h => h, fun _ _ h => h, fun a h1 h2 => ?_, fun _ h => .inl h, fun n a r h => ⟨r, h⟩⟩⟩
  · by_cases e : a = q
    · subst e; rw [upd_same] at h; cases h; exact hq
    · rw [upd_ne e] at h; exact w.sub a x h
  · rw [upd_ne (fun e => nf (by rw [← e]; exact h))]; exact w.nof a h
  · by_cases e : a = q
    · subst e; exact .inr ⟨xs, hq⟩
    · rw [upd_ne e] at h2; exact absurd h1 h2
theorem ObjAt.notup {F H : Hp} {a : Addr} {r : List Addr} {o : SObj} (h : ObjAt F H a r o) {b : Addr} (hb : b = a ∨ b ∈ r) (xs : List V) : H b ≠ some (.tup xs) := by
  cases o with
  | town c rests =>
    obtain ⟨q, e, n, h1, h2⟩ := h
    subst e
    rcases hb with rfl | hb
    · rw [h1]; simp
    · rw [List.mem_singleton.mp hb, h2]; simp
  | ses _ _ _ => exact h.elim
theorem WOk.foot_notup {L : Loc} {s : S} {F H : Hp} (w : WOk L s F H) {q : Addr} (hf : Loc.foot L q) (xs : List V) : H q ≠ some (.tup xs) := by
  obtain ⟨⟨a, r⟩, hp, hb⟩ := hf
  obtain ⟨n, hn⟩ := List.getElem?_of_mem hp
  have hl : n < s.length := by rw [← w.len]; exact (List.getElem?_eq_some_iff.mp hn).1
  exact (w.objs n s[n] a r (List.getElem?_eq_getElem hl) hn).notup hb xs
theorem itD_dic {L : Loc} {s : S} {F H : Hp} {p : Addr} {o : Obj} {ks : List (List Int)} (w : WOk L s F H) (h1 : F p = some (.frz o (.dT (ks.map fun k => (k.map Sum.inl, V.bl true))))) :
    ItD L F H (Itkt p o (ks.map fun k => (k.map Sum.inl, V.bl true))) (ks.map fun k => .tup (k.map .int)) := by
  have W := walk_keysT (d := p) (o := o) (kvs := ks.map fun k => ((k.map Sum.inl : List Key), V.bl true))
  rw [List.length_map] at W
  refine ⟨_, _, (by rw [List.length_map]; exact W), fun L' s' F' H' w' e' => w'.sub _ _ (e'.sub _ _ h1), fun i d L1 s1 F1 H1 x H2 hd w1 e1 y => ?_⟩
  obtain ⟨rfl, k, v, q, g1, rfl, g2⟩ := y
  rw [List.getElem?_map] at g1 hd
  cases hk : ks[i]? with
  | none => rw [hk] at hd; cases hd
  | some k' =>
    rw [hk] at g1 hd
    cases g1
    cases hd
    rw [kV_ints] at g2
    obtain ⟨w2, e2⟩ := w1.tell g2 fun z => w1.foot_notup z _ g2
    exact ⟨_, w2, e2, q, _, rfl, upd_same, dvs_ints k'⟩
/-- a list, a tuple, a dict's keys -/
theorem si_seq {tg : Expr} (ha : PE X ea (tEv X.mg E a)) : PI X tg ea (tI X.mg E a) := by
  refine PI.imp (PI.or (pi_list ha) (PI.or (pi_tup ha) (pi_keys ha))) fun σ H Q ⟨Γ, s, L, F, L0, F0, H0, R, h⟩ => ?_
  unfold itemsM at h
  rw [wp_bind] at h
  cases he : eval a Γ s with
  | bad => rw [he] at h; exact h.elim
  | err c s1 =>
    rw [he] at h
    exact .inl ⟨Γ, s, L, F, L0, F0, H0, R, by rw [he]; exact h⟩
  | ok w s1 =>
    rw [he] at h
    have h : wp (M.opt w.items s1) _ _ := h
    rw [wp_opt] at h
    obtain ⟨ds, hd, h⟩ := h
    cases w <;> simp only [D.items, Option.some.injEq, reduceCtorEq] at hd
    · subst hd
      refine .inr (.inl ⟨Γ, s, L, F, L0, F0, H0, R, ?_⟩)
      rw [he]
      intro v L1 F1 H1 w1 e1 r1
      obtain ⟨p, vs, rfl, p1, p2⟩ := r1
      exact ⟨p, rfl, ⟨vs, SqT.of (w1.sub _ _ p1)⟩, h _ L1 F1 H1 w1 e1 (itD_tup w1 p1 p2)⟩
    · subst hd
      refine .inl ⟨Γ, s, L, F, L0, F0, H0, R, ?_⟩
      rw [he]
      intro v L1 F1 H1 w1 e1 r1
      obtain ⟨p, vs, rfl, p1, p2⟩ := r1
      exact ⟨p, rfl, ⟨vs, SqL.of (w1.sub _ _ p1)⟩, h _ L1 F1 H1 w1 e1 (itD_list w1 p1 p2)⟩
    · subst hd
      refine .inr (.inr ⟨Γ, s, L, F, L0, F0, H0, R, ?_⟩)
      rw [he]
      intro v L1 F1 H1 w1 e1 r1
      obtain ⟨p, o, rfl, p1⟩ := r1
      exact ⟨p, o, rfl, .inr ⟨_, w1.sub _ _ p1, h _ L1 F1 H1 w1 e1 (itD_dic w1 p1)⟩⟩
theorem star1 {e : Expr} {env : PySem.Env} (h : plainE e = true) : starEach [e] env = [(false, PySem.eval e env)] := star_plain h
theorem range_of {i j : Int} {ds : List D} (e : rangeD i j = some ds) : (-(2 ^ 62) ≤ i ∧ i < 2 ^ 62 ∧ -(2 ^ 62) ≤ j ∧ j < 2 ^ 62) ∧ ds = (List.range (j - i).toNat).map fun (k : Nat) => D.int (i + k) := by
  unfold rangeD at e
  split at e
  · rename_i h
    cases e
    exact ⟨⟨h.1, h.2.1, h.2.2.1, h.2.2.2.1⟩, rfl⟩
  · cases e
theorem si_rng1 {tg : Expr} {p : Pos} {x : Str} (hx : x = "range") (hg : Gl X x) (hm : X.mg "range" = none) (ha : PE X ea (tEv X.mg E a)) (hp : plainE ea = true) : PI X tg (.Call (.Name x p) [ea] [] pos) (tI X.mg E (.rng1 a)) := by
  subst hx
  refine PI.imp (pi_range1 hg hm (sa_cons ha sa_nil hp) (star1 hp)) fun σ H Q ⟨Γ, s, L, F, L0, F0, H0, R, h⟩ => ?_
  unfold itemsM at h
  simp only [eval, M.assoc] at h
  rw [wp_bind] at h
  refine ⟨Γ, s, L, F, L0, F0, H0, R, ?_⟩
  simp only [evals]
  rw [wp_bind]
  refine wp_mono h (fun x s1 h1 => ?_) fun _ _ z => z
  rw [wp_bind]
  intro vs L1 F1 H1 w1 e1 r1
  obtain ⟨v, rfl, rx⟩ := one_v r1
  obtain ⟨j, rfl⟩ : ∃ j, x = .int j := by
    cases x with
    | int j => exact ⟨j, rfl⟩
    | _ => exact h1.elim
  have rx : v = .int j := rx
  subst rx
  have h1 : wp (M.bind (M.opt ((rangeD 0 j).map D.lst)) (fun w : D => M.opt w.items) s1) (okI Q L F H) (Kx X.mg E L F H) := h1
  rw [wp_bind, wp_opt] at h1
  obtain ⟨d, e, h1⟩ := h1
  obtain ⟨ds, ed, rfl⟩ := Option.map_eq_some_iff.mp e
  obtain ⟨b1, rfl⟩ := range_of ed
  have h1 : okI Q L F H _ s1 := h1
  refine ⟨j, rfl, b1.2.2.1, b1.2.2.2, h1 _ L1 F1 H1 w1 e1 ?_⟩
  have : (j - 0).toNat = j.toNat := by omega
  rw [this]
  exact itD_range
theorem si_rng2 {tg : Expr} {p : Pos} {x : Str} (hx : x = "range") (hg : Gl X x) (hm : X.mg "range" = none) (ha : PE X ea (tEv X.mg E a)) (hb : PE X eb (tEv X.mg E b)) (hp : plainE ea = true) (hq : plainE eb = true) : PI X tg (.Call (.Name x p) [ea, eb] [] pos) (tI X.mg E (.rng2 a b)) := by
  subst hx
  refine PI.imp (pi_range2 hg hm (sa_cons ha (sa_cons hb sa_nil hq) hp) (by rw [star_plain hp, star1 hq]) (star1 hq)) fun σ H Q ⟨Γ, s, L, F, L0, F0, H0, R, h⟩ => ?_
  unfold itemsM at h
  simp only [eval, M.assoc] at h
  refine ⟨Γ, s, L, F, L0, F0, H0, R, ?_⟩
  simp only [evals, M.assoc]
  rw [wp_bind] at h ⊢
  refine wp_mono h (fun x s1 h1 => ?_) fun _ _ z => z
  rw [wp_bind] at h1 ⊢
  refine wp_mono h1 (fun y s2 h2 => ?_) fun _ _ z => z
  intro vs L1 F1 H1 w1 e1 r1
  obtain ⟨v, u, rfl, rx, ry⟩ := two_v r1
  obtain ⟨i, j, rfl, rfl⟩ : ∃ i j, x = .int i ∧ y = .int j := by
    cases x <;> cases y <;> first | exact ⟨_, _, rfl, rfl⟩ | exact h2.elim
  have rx : v = .int i := rx
  have ry : u = .int j := ry
  subst rx ry
  have h2 : wp (M.bind (M.opt ((rangeD i j).map D.lst)) (fun w : D => M.opt w.items) s2) (okI Q L F H) (Kx X.mg E L F H) := h2
  rw [wp_bind, wp_opt] at h2
  obtain ⟨d, e, h2⟩ := h2
  obtain ⟨ds, ed, rfl⟩ := Option.map_eq_some_iff.mp e
  obtain ⟨b1, rfl⟩ := range_of ed
  have h2 : okI Q L F H _ s2 := h2
  exact ⟨i, j, rfl, b1, h2 _ L1 F1 H1 w1 e1 itD_range⟩
theorem walk_zipT {K : PySem.W.Frag} {p q : Addr} {xs ys : List V} {n : Nat} (hn : n = min xs.length ys.length) : Walk (RZ.ItzT K p q) n (fun H => SqT K H p xs ∧ SqT K H q ys) (YPair (fun i => xs[i]?) (fun i => ys[i]?)) := by
  subst hn
  refine ⟨fun i _ hi q => ?_, fun _ q => ⟨xs, ys, q.1, q.2, by omega⟩, fun i H v H' _ q y => ?_⟩
  · have h1 : i < xs.length := by omega
    have h2 : i < ys.length := by omega
    exact ⟨xs, ys, xs[i], ys[i], q.1, q.2, by simp [h1], by simp [h2]⟩
  · obtain ⟨T, x, z, h1, h2, h3, h4, h5⟩ := y
    exact ⟨T, x, z, h1, h2, h3, h4 xs q.1, h5 ys q.2⟩
theorem zip_at {xs ys : List D} {i : Nat} {d : D} (h : (List.zipWith (fun x y => D.tup [x, y]) xs ys)[i]? = some d) : ∃ x y, xs[i]? = some x ∧ ys[i]? = some y ∧ d = .tup [x, y] := by
  rw [List.getElem?_zipWith] at h
  split at h
  · rename_i x y h1 h2
    cases h
    exact ⟨x, y, h1, h2, rfl⟩
  · cases h
theorem itD_pair {L : Loc} {F H : Hp} {J : It} {xs ys : List D} {vs us : List V} {G : Hp → Prop} (W : Walk J (min vs.length us.length) G (YPair (fun i => vs[i]?) (fun i => us[i]?))) (hG : ∀ L' s' F' H', WOk L' s' F' H' → Gr L F L' F' → G H')
    (hx : DVs L F xs vs) (hy : DVs L F ys us) : ItD L F H J (List.zipWith (fun x y => D.tup [x, y]) xs ys) := by
  refine ⟨G, _, (by rw [List.length_zipWith, hx.len, hy.len]; exact W), hG, fun i d L1 s1 F1 H1 x H2 hd w1 e1 y => ?_⟩
  obtain ⟨T, u, v, rfl, hT, rfl, gu, gv⟩ := y
  obtain ⟨dx, dy, hdx, hdy, rfl⟩ := zip_at hd
  obtain ⟨u', g1, g2⟩ := hx.get hdx
  obtain ⟨v', g3, g4⟩ := hy.get hdy
  have gu : vs[i]? = some u := gu
  have gv : us[i]? = some v := gv
  rw [gu] at g1
  rw [gv] at g3
  cases g1
  cases g3
  obtain ⟨w2, e2⟩ := w1.push (o := .tup [u, v]) hT
  exact ⟨_, w2, e2, T, _, rfl, upd_same, u, [v], rfl, e2.dv (e1.dv g2), v, [], rfl, e2.dv (e1.dv g4), rfl⟩
theorem si_zip {p tpos : Pos} {x : Str} {elts : List Expr} {kk : Nat} (hx : x = "zip") (hg : Gl X x) (hm : X.mg "zip" = none) (ha : PE X ea (tEv X.mg E a)) (hb : PE X eb (tEv X.mg E b)) (hp : plainE ea = true) (hq : plainE eb = true) :
    PI X (.Tuple elts kk tpos) (.Call (.Name x p) [ea, eb] [] pos) (tI X.mg E (.zip a b)) := by
  subst hx
  refine PI.imp (RZ.pi_zipA hg hm (sa_cons ha (sa_cons hb sa_nil hq) hp) (star_plain hp) (by rw [star1 hq]; rfl)) fun σ H Q ⟨Γ, s, L, F, L0, F0, H0, R, h⟩ => ?_
  unfold itemsM at h
  simp only [eval, M.assoc] at h
  refine ⟨Γ, s, L, F, L0, F0, H0, R, ?_⟩
  simp only [evals, M.assoc]
  rw [wp_bind] at h ⊢
  refine wp_mono h (fun x s1 h1 => ?_) fun _ _ z => z
  rw [wp_bind] at h1 ⊢
  refine wp_mono h1 (fun y s2 h2 => ?_) fun _ _ z => z
  intro vs L1 F1 H1 w1 e1 r1
  obtain ⟨v, u, rfl, rx, ry⟩ := two_v r1
  rw [wp_bind, wp_opt] at h2
  obtain ⟨d, e, h2⟩ := h2
  obtain ⟨ds, ed, rfl⟩ := Option.map_eq_some_iff.mp e
  have h2 : okI Q L F H ds s2 := h2
  cases x <;> cases y <;> simp only [zipD, Option.some.injEq, reduceCtorEq] at ed
  · subst ed
    obtain ⟨p, vs, rfl, p1, p2⟩ := rx
    obtain ⟨q, us, rfl, q1, q2⟩ := ry
    refine ⟨p, q, vs, us, rfl, .inr ⟨SqT.of (w1.sub _ _ p1), SqT.of (w1.sub _ _ q1), h2 _ L1 F1 H1 w1 e1 (itD_pair (walk_zipT rfl) (fun L' s' F' H' w' e' => ⟨SqT.of (w'.sub _ _ (e'.sub _ _ p1)), SqT.of (w'.sub _ _ (e'.sub _ _ q1))⟩) p2 q2)⟩⟩
  · subst ed
    obtain ⟨p, vs, rfl, p1, p2⟩ := rx
    obtain ⟨q, us, rfl, q1, q2⟩ := ry
    refine ⟨p, q, vs, us, rfl, .inl ⟨SqL.of (w1.sub _ _ p1), SqL.of (w1.sub _ _ q1), h2 _ L1 F1 H1 w1 e1 (itD_pair (walk_zip rfl) (fun L' s' F' H' w' e' => ⟨SqL.of (w'.sub _ _ (e'.sub _ _ p1)), SqL.of (w'.sub _ _ (e'.sub _ _ q1))⟩) p2 q2)⟩⟩
end
end Mini

end
section
set_option linter.all false
set_option autoImplicit false
set_option maxRecDepth 100000
set_option maxHeartbeats 1000000
/-! Snd7: targets, list comprehensions. -/
namespace Mini
open PySem PySem.Spec L2
open PyProof.Rows hiding St
variable [KFrag]

/-! ### targets -/
mutual
def rTg (K : PySem.W.Frag) : Tg → TG
  | .name i => gName i
  | .tup ts => gTup K ts.length (rTgs K ts)
def rTgs (K : PySem.W.Frag) : List Tg → TGs
  | [] => gNil
  | t :: ts => gCons (rTg K t) (rTgs K ts)
end
mutual
/-- the target is written so; its names are names of tsc that may be stored -/
def chkT (N : List Str) (tsc : Scope) : Tg → Expr → Bool
  | .name i, e => match e with
    | .Name x _ => decide (N[i]? = some x) && (match tsc.names.lookup x with | some .local => true | some .cell => true | _ => false)
    | _ => false
  | .tup ts, e => match e with
    | .Tuple es _ _ => chkTs N tsc ts es
    | _ => false
def chkTs (N : List Str) (tsc : Scope) : List Tg → List Expr → Bool
  | [], es => match es with | [] => true | _ => false
  | t :: ts, es => match es with | e :: es => chkT N tsc t e && chkTs N tsc ts es | _ => false
end
/-- names of tsc may be stored here -/
def MayStore (X : Cx) (tsc : Scope) : Prop := ∀ x, (tsc.names.lookup x = some .local ∨ tsc.names.lookup x = some .cell) → L2.Loc X.env.scope x ∧ (X.fn x = true ∨ X.env.scope.names.lookup x = some .local)
section
variable {X : Cx} {N : List Str} {tsc : Scope}
theorem chkTs_len : ∀ {ts : List Tg} {es : List Expr}, chkTs N tsc ts es = true → es.length = ts.length
  | [], [], _ => rfl
  | t :: ts, e :: es, h => by
    simp only [chkTs, Bool.and_eq_true] at h
    rw [List.length_cons, List.length_cons, chkTs_len h.2]
  | [], _ :: _, h => by simp [chkTs] at h
  | _ :: _, [], h => by simp [chkTs] at h
theorem chkT_form {t : Tg} {e : Expr} (h : chkT N tsc t e = true) : (∃ x p, e = .Name x p) ∨ ∃ es k p, e = .Tuple es k p := by
  cases t with
  | name i =>
    simp only [chkT] at h
    split at h
    · exact .inl ⟨_, _, rfl⟩
    · cases h
  | tup ts =>
    simp only [chkT] at h
    split at h
    · exact .inr ⟨_, _, _, rfl⟩
    · cases h
theorem assignEach_cons {t : Tg} {e : Expr} {es : List Expr} {env : PySem.Env} (h : chkT N tsc t e = true) : assignEach (e :: es) env = (false, assign e env) :: assignEach es env := by
  rcases chkT_form h with ⟨x, p, rfl⟩ | ⟨es', k, p, rfl⟩ <;> rfl
theorem assignEach_of : ∀ {ts : List Tg} {es : List Expr} {env : PySem.Env}, chkTs N tsc ts es = true → (assignEach es env).length = ts.length ∧ (assignEach es env).findIdx? (·.1) = none
  | [], [], _, _ => ⟨rfl, rfl⟩
  | t :: ts, e :: es, env, h => by
    simp only [chkTs, Bool.and_eq_true] at h
    obtain ⟨h1, h2⟩ := assignEach_of (env := env) h.2
    rw [assignEach_cons h.1]
    refine ⟨by rw [List.length_cons, List.length_cons, h1], ?_⟩
    rw [List.findIdx?_cons]
    simp [h2]
  | [], _ :: _, _, h => by simp [chkTs] at h
  | _ :: _, [], _, h => by simp [chkTs] at h
mutual
theorem sg (hN : X.N = N) (nd : N.Nodup) (hc : X.calm = true) (ms : MayStore X tsc) : ∀ (t : Tg) (e : Expr), chkT N tsc t e = true → PG X e (rTg X.K t)
  | .name i, e, h => by
    simp only [chkT] at h
    split at h
    · rename_i x p
      rw [Bool.and_eq_true, decide_eq_true_eq] at h
      have q : tsc.names.lookup x = some .local ∨ tsc.names.lookup x = some .cell := by
        have h2 := h.2
        split at h2 <;> first | (left; assumption) | (right; assumption) | cases h2
      obtain ⟨m1, m2⟩ := ms x q
      simp only [rTg]
      exact pg_name (by rw [hN]; exact nd) (by rw [hN]; exact h.1) m1 m2
    · cases h
  | .tup ts, e, h => by
    simp only [chkT] at h
    split at h
    · rename_i es k p
      obtain ⟨h1, h2⟩ := assignEach_of (env := X.env) h
      simp only [rTg]
      exact pg_tup hc (sgs hN nd hc ms ts es h) h1 h2
    · cases h
theorem sgs (hN : X.N = N) (nd : N.Nodup) (hc : X.calm = true) (ms : MayStore X tsc) : ∀ (ts : List Tg) (es : List Expr), chkTs N tsc ts es = true → PGs X es (rTgs X.K ts)
  | [], es, h => by
    cases es with
    | nil => exact pgs_nil
    | cons => simp [chkTs] at h
  | t :: ts, es, h => by
    cases es with
    | nil => simp [chkTs] at h
    | cons e es =>
      simp only [chkTs, Bool.and_eq_true] at h
      simp only [rTgs]
      exact pgs_cons (sg hN nd hc ms t e h.1) (sgs hN nd hc ms ts es h.2) (by rw [assignEach_cons h.1]; rfl)
end
end

mutual
def Tg.names : Tg → List Nat
  | .name i => [i]
  | .tup ts => Tg.namess ts
def Tg.namess : List Tg → List Nat
  | [] => []
  | t :: ts => Tg.names t ++ Tg.namess ts
end
section
variable {Γ Γ' : Env} {s : S} {L L0 : Loc} {F F0 H0 H : Hp} {σ : L2.St}
theorem Rel.set (R : Rel Γ s L F L0 F0 H0 σ H) {i : Nat} {d : D} {v : V} (h : DV L F d v) : Rel (Env.put Γ i (.dat d)) s L F L0 F0 H0 (σ.set i (some v)) H := by
  refine ⟨R.w, R.e, by unfold Env.put; rw [List.length_set, List.length_set, R.len], fun j x hj => ?_, fun j k d1 d2 hj hk hjk => ?_⟩
  · unfold Env.put at hj
    by_cases e : i = j
    · subst e
      have hi : i < Γ.length := by
        have := (List.getElem?_eq_some_iff.mp hj).1
        rwa [List.length_set] at this
      rw [List.getElem?_set_self hi] at hj
      cases hj
      exact ⟨v, List.getElem?_set_self (by rw [← R.len]; exact hi), h⟩
    · rw [List.getElem?_set_ne e] at hj
      have := R.sl j x hj
      cases x with
      | dat d' =>
        obtain ⟨v', h1, h2⟩ := this
        exact ⟨v', by rw [List.getElem?_set_ne e]; exact h1, h2⟩
      | own d' =>
        obtain ⟨a, h1, h2⟩ := this
        exact ⟨a, by rw [List.getElem?_set_ne e]; exact h1, h2⟩
  · unfold Env.put at hj hk
    have n1 : i ≠ j := fun e => by
      subst e
      have hi : i < Γ.length := by
        have := (List.getElem?_eq_some_iff.mp hj).1
        rwa [List.length_set] at this
      rw [List.getElem?_set_self hi] at hj
      cases hj
    have n2 : i ≠ k := fun e => by
      subst e
      have hi : i < Γ.length := by
        have := (List.getElem?_eq_some_iff.mp hk).1
        rwa [List.length_set] at this
      rw [List.getElem?_set_self hi] at hk
      cases hk
    rw [List.getElem?_set_ne n1] at hj
    rw [List.getElem?_set_ne n2] at hk
    rw [List.getElem?_set_ne n1, List.getElem?_set_ne n2]
    exact R.ap j k d1 d2 hj hk hjk
theorem Env.wipe_get {Γ : Env} {i : Nat} {x : Slot} : ∀ {vs : List Nat}, (Env.wipe Γ vs)[i]? = some (some x) → Γ[i]? = some (some x) ∧ i ∉ vs
  | [], h => ⟨h, by simp⟩
  | v :: vs, h => by
    unfold Env.wipe at h
    by_cases hi : v = i
    · subst hi
      by_cases hv : v < (Env.wipe Γ vs).length
      · rw [List.getElem?_set_self hv] at h; cases h
      · rw [List.getElem?_eq_none (by simpa using hv)] at h; cases h
    · rw [List.getElem?_set_ne hi] at h
      obtain ⟨h1, h2⟩ := Env.wipe_get h
      exact ⟨h1, by simp only [List.mem_cons, not_or]; exact ⟨fun e => hi e.symm, h2⟩⟩
theorem Env.wipe_len (Γ : Env) : ∀ vs : List Nat, (Env.wipe Γ vs).length = Γ.length
  | [] => rfl
  | v :: vs => by unfold Env.wipe; rw [List.length_set, Env.wipe_len Γ vs]
theorem wipe_at {σ : L2.St} {i : Nat} : ∀ {vs : List Nat}, i ∉ vs → (L2.wipe σ vs)[i]? = σ[i]?
  | [], _ => rfl
  | v :: vs, h => by
    simp only [List.mem_cons, not_or] at h
    unfold L2.wipe
    rw [List.getElem?_set_ne (fun e => h.1 e.symm)]
    exact wipe_at h.2
theorem Rel.wipe (R : Rel Γ s L F L0 F0 H0 σ H) (vs : List Nat) : Rel (Env.wipe Γ vs) s L F L0 F0 H0 (L2.wipe σ vs) H := by
  refine ⟨R.w, R.e, by rw [Env.wipe_len, wipe_length, R.len], fun i x h => ?_, fun i j d d' hi hj hij => ?_⟩
  · obtain ⟨h1, h2⟩ := Env.wipe_get h
    have := R.sl i x h1
    cases x with
    | dat d =>
      obtain ⟨v, q1, q2⟩ := this
      exact ⟨v, by rw [wipe_at h2]; exact q1, q2⟩
    | own d =>
      obtain ⟨a, q1, q2⟩ := this
      exact ⟨a, by rw [wipe_at h2]; exact q1, q2⟩
  · obtain ⟨h1, h2⟩ := Env.wipe_get hi
    obtain ⟨h3, h4⟩ := Env.wipe_get hj
    rw [wipe_at h2, wipe_at h4]
    exact R.ap i j d d' h1 h3 hij
/-- a wiped place stored, and wiped again -/
theorem wipe_set {i : Nat} {v : Option V} : ∀ {vs : List Nat} (σ : L2.St), i ∈ vs → L2.wipe (σ.set i v) vs = L2.wipe σ vs := by
  intro vs σ h
  apply List.ext_getElem?
  intro j
  by_cases hj : j ∈ vs
  · have key : ∀ (σ : L2.St) (vs : List Nat), j ∈ vs → (L2.wipe σ vs)[j]? = if j < σ.length then some none else none := by
      intro σ vs
      induction vs with
      | nil => intro h; cases h
      | cons w vs ih =>
        intro hm
        unfold L2.wipe
        by_cases e : w = j
        · subst e
          by_cases hl : w < σ.length
          · rw [List.getElem?_set_self (by rw [wipe_length]; exact hl), if_pos hl]
          · rw [List.getElem?_eq_none (by rw [List.length_set, wipe_length]; omega), if_neg hl]
        · rw [List.getElem?_set_ne e]
          rcases List.mem_cons.mp hm with z | z
          · exact absurd z.symm e
          · exact ih z
    rw [key _ _ hj, key _ _ hj, List.length_set]
  · rw [wipe_at hj, wipe_at hj, List.getElem?_set_ne]
    intro e
    subst e
    exact hj h
theorem wipe_wipe (σ : L2.St) (vs : List Nat) : L2.wipe (L2.wipe σ vs) vs = L2.wipe σ vs := by
  have key : ∀ (ws : List Nat), (∀ w ∈ ws, w ∈ vs) → L2.wipe (L2.wipe σ ws) vs = L2.wipe σ vs := by
    intro ws
    induction ws with
    | nil => intro _; rfl
    | cons w ws ih =>
      intro h
      show L2.wipe ((L2.wipe σ ws).set w none) vs = _
      rw [wipe_set _ (h w List.mem_cons_self)]
      exact ih fun x hx => h x (List.mem_cons_of_mem _ hx)
  exact key vs fun _ h => h
mutual

theorem bind_tg {K : PySem.W.Frag} {Q : L2.St → Hp → Prop} : ∀ (t : Tg) {Γ Γ' : Env} {σ : L2.St} {d : D} {v : V}, Rel Γ s L F L0 F0 H0 σ H → DV L F d v → bindT t d Γ = some Γ' →
    (∀ σ', Rel Γ' s L F L0 F0 H0 σ' H → (∀ vs, (∀ i, i ∈ Tg.names t → i ∈ vs) → L2.wipe σ' vs = L2.wipe σ vs) → Q σ' H) → rTg K t v σ H Q
  | .name i, Γ, Γ', σ, d, v, R, hd, e, k => by
    simp only [bindT, Option.some.injEq] at e
    subst e
    simp only [rTg]
    exact k _ (R.set hd) fun vs hv => wipe_set _ (hv i (by simp [Tg.names]))
  | .tup ts, Γ, Γ', σ, d, v, R, hd, e, k => by
    cases d with
    | tup xs =>
      simp only [bindT] at e
      obtain ⟨p, vs, rfl, p1, p2⟩ := hd
      simp only [rTg]
      refine ⟨p, vs, rfl, SqT.of (R.w.sub _ _ p1), ?_, bind_tgs ts R p2 e fun σ' R' w => k σ' R' fun vs hv => w vs (by simpa [Tg.names] using hv)⟩
      rw [← p2.len]
      exact bindTs_len ts e
    | _ => simp [bindT] at e
theorem bind_tgs {K : PySem.W.Frag} {Q : L2.St → Hp → Prop} : ∀ (ts : List Tg) {Γ Γ' : Env} {σ : L2.St} {ds : List D} {vs : List V}, Rel Γ s L F L0 F0 H0 σ H → DVs L F ds vs → bindTs ts ds Γ = some Γ' →
    (∀ σ', Rel Γ' s L F L0 F0 H0 σ' H → (∀ vs, (∀ i, i ∈ Tg.namess ts → i ∈ vs) → L2.wipe σ' vs = L2.wipe σ vs) → Q σ' H) → rTgs K ts vs σ H Q
  | [], Γ, Γ', σ, ds, vs, R, hd, e, k => by
    cases ds with
    | nil =>
      simp only [bindTs, Option.some.injEq] at e
      subst e
      have hd : vs = [] := hd
      subst hd
      simp only [rTgs]
      exact ⟨rfl, k σ R fun _ _ => rfl⟩
    | cons => simp [bindTs] at e
  | t :: ts, Γ, Γ', σ, ds, vs, R, hd, e, k => by
    cases ds with
    | nil => simp [bindTs] at e
    | cons d ds =>
      simp only [bindTs] at e
      obtain ⟨Γ1, e1, e2⟩ := Option.bind_eq_some_iff.mp e
      obtain ⟨v, r, rfl, h1, h2⟩ := hd
      simp only [rTgs]
      refine ⟨v, r, rfl, bind_tg t R h1 e1 fun σ1 R1 w1 => bind_tgs ts R1 h2 e2 fun σ2 R2 w2 => k σ2 R2 fun vs hv => ?_⟩
      rw [w2 vs fun i hi => hv i (by simp [Tg.namess, hi]), w1 vs fun i hi => hv i (by simp [Tg.namess, hi])]
theorem bindTs_len : ∀ (ts : List Tg) {Γ Γ' : Env} {ds : List D}, bindTs ts ds Γ = some Γ' → ds.length = ts.length
  | [], Γ, Γ', ds, e => by
    cases ds with
    | nil => rfl
    | cons => simp [bindTs] at e
  | t :: ts, Γ, Γ', ds, e => by
    cases ds with
    | nil => simp [bindTs] at e
    | cons d ds =>
      simp only [bindTs] at e
      obtain ⟨Γ1, e1, e2⟩ := Option.bind_eq_some_iff.mp e
      rw [List.length_cons, List.length_cons, bindTs_len ts e2]
end
end
end Mini

end
section
set_option linter.all false
set_option autoImplicit false
set_option maxRecDepth 100000
set_option maxHeartbeats 1000000
/-! Snd8: list comprehensions. -/
namespace Mini
open PySem PySem.Spec L2
open PyProof.Rows hiding St
variable [KFrag]

abbrev E0 : XK := fun _ _ _ => False
def tCond (mg : Str → Option Value) : Option ME → TT
  | none => tYes
  | some c => tTv mg E0 c
section
variable {L L1 : Loc} {s : S} {F F1 H H1 : Hp} {p : Addr} {o : HO}
theorem WOk.setOwn (w : WOk L s F H) (hF : F p = none) (nf : ¬ Loc.foot L p) : WOk L s F (upd H p o) := by
  have hn : ∀ a, Loc.foot L a → a ≠ p := fun a h e => nf (by rw [← e]; exact h)
  refine ⟨fun a x h => ?_, w.len, fun n y a r h1 h2 => ?_, fun a h => ?_, w.apart⟩
  · rw [upd_ne (ne_of_none h hF)]; exact w.sub a x h
  · refine (w.objs n y a r h1 h2).keep (fun _ _ h => h) fun b hb => ?_
    rw [upd_ne (hn b ⟨(a, r), List.mem_of_getElem? h2, hb⟩)]
  · rw [upd_ne (hn a h)]; exact w.nof a h
theorem Ext.setOwn (x : Ext L1 F1 H1 L F H) (hF : F p = none) (hp : H1 p = none) : Ext L1 F1 H1 L F (upd H p o) where
  sub := x.sub
  old := fun a y h n => by rw [upd_ne (ne_of_none h hp)]; exact x.old a y h n
  there := fun a h => by
    by_cases e : a = p
    · subst e; exact absurd hp h
    · rw [upd_ne e]; exact x.there a h
  tups := fun a xs h => by rw [upd_ne (ne_of_none h hp)]; exact x.tups a xs h
  fresh := fun a h1 h2 => by
    rcases x.fresh a h1 h2 with z | ⟨xs, z⟩
    · exact .inl z
    · right
      refine ⟨xs, ?_⟩
      rw [upd_ne (fun e => h2 (by rw [e]; exact hF))]
      exact z
  foot := x.foot
  objs := x.objs
/-- what stands and may not change any more is told -/
theorem WOk.tellOwn (w : WOk L s F H) (hp : H p = some o) (hF : F p = none) (nf : ¬ Loc.foot L p) : WOk L s (upd F p o) H := by
  have hs : ∀ a x, F a = some x → upd F p o a = some x := fun a x h => by rw [upd_ne (ne_of_none h hF)]; exact h
  refine ⟨fun a x h => ?_, w.len, fun n y a r h1 h2 => (w.objs n y a r h1 h2).keep hs fun _ _ => rfl, fun a h => ?_, w.apart⟩
  · by_cases e : a = p
    · subst e; rw [upd_same] at h; cases h; exact hp
    · rw [upd_ne e] at h; exact w.sub a x h
  · rw [upd_ne (fun e => nf (by rw [← e]; exact h))]; exact w.nof a h
theorem Ext.tellOwn (x : Ext L1 F1 H1 L F H) (hF : F p = none) (hp : H1 p = none) : Ext L1 F1 H1 L (upd F p o) H where
  sub := fun a y h => by rw [upd_ne (ne_of_none (x.sub a y h) hF)]; exact x.sub a y h
  old := x.old
  there := x.there
  tups := x.tups
  fresh := fun a h1 h2 => by
    by_cases e : a = p
    · subst e; exact .inl hp
    · rw [upd_ne e] at h2; exact x.fresh a h1 h2
  foot := x.foot
  objs := x.objs
end
theorem wp_calm {α : Type} {m : M α} {s : S} {ok : α → S → Prop} {er : Str → S → Prop} (h : wp (M.calm m s) ok er) : wp (m s) ok fun _ _ => False := by
  unfold M.calm at h
  cases e : m s with
  | ok a s' => rw [e] at h; exact h
  | err c s' => rw [e] at h; exact h.elim
  | bad => rw [e] at h; exact h.elim
section
variable {X : Cx} {E : XK}
theorem cond_read {mg : Str → Option Value} {α : Type} {cond : Option ME} {g : Bool → M α} {Γ : Env} {s : S} {L L0 : Loc} {F F0 H0 H : Hp} {σ : L2.St} {ok : α → S → Prop} {P : Bool → Hp → Prop} (R : Rel Γ s L F L0 F0 H0 σ H)
    (h : wp (M.bind (evalC cond Γ) g s) ok fun _ _ => False) (k : ∀ b s1 L1 F1 H1, WOk L1 s1 F1 H1 → Ext L F H L1 F1 H1 → wp (g b s1) ok (fun _ _ => False) → P b H1) : tCond mg cond σ H P := by
  cases cond with
  | none => exact k true s L F H R.w (Ext.refl ..) h
  | some c =>
    refine ⟨Γ, s, L, F, L0, F0, H0, R, ?_⟩
    have h : wp (M.bind (evalT c Γ) g s) ok fun _ _ => False := h
    rw [wp_bind] at h
    refine wp_mono h (fun b s1 h1 b' L1 F1 H1 w1 e1 eb => ?_) fun _ _ z => z.elim
    obtain rfl : b = b' := eb
    exact k b s1 L1 F1 H1 w1 e1 h1
theorem lc_read {own : List Nat} {tg : Tg} {src elt : ME} {cond : Option ME} (hn : ∀ i, i ∈ Tg.names tg → i ∈ own) {σ : L2.St} {H : Hp} {Q : VK} (h : tEv X.mg E (.lc own tg src cond elt) σ H Q) :
    tLc (tI X.mg E src) (rTg X.K tg) (tCond X.mg cond) (tEv X.mg E0 elt) own σ H Q := by
  obtain ⟨Γ, s, L, F, L0, F0, H0, R, h⟩ := h
  simp only [eval] at h
  rw [← M.assoc] at h
  have h : wp (M.bind (itemsM src Γ) _ s) _ _ := h
  rw [wp_bind] at h
  refine ⟨Γ, s, L, F, L0, F0, H0, R, wp_mono h (fun xs s1 h1 J L1 F1 H1 w1 e1 it D hD => ?_) fun _ _ z => z⟩
  by_cases hlim : xs.length ≤ lim
  · rw [if_pos hlim] at h1
    have R1 := R.ext w1 e1
    obtain ⟨G, Y, wk, hG, hY⟩ := it
    generalize hf : (fun x => M.calm (M.bind (M.opt (bindT tg x (Env.wipe Γ own))) fun Γ' => M.bind (evalC cond Γ') fun k => if k = true then M.bind (eval elt Γ') fun y => M.ret (some y) else M.ret none)) = f at h1
    rw [wp_bind] at h1
    obtain ⟨wp0, ep0⟩ := w1.pushOwn (o := .lst []) hD
    have hF1 : F1 D = none := by
      cases q : F1 D with
      | none => rfl
      | some x => have := w1.sub D x q; rw [hD] at this; cases this
    have nf1 : ¬ Loc.foot L1 D := fun z => (w1.nof D z).2 hD
    refine lc_it wk (fun i H2 => ∃ s2 L2 F2 acc vacc, WOk L2 s2 F2 H2 ∧ Ext L1 F1 H1 L2 F2 H2 ∧ H2 D = some (.lst vacc) ∧ F2 D = none ∧ ¬ Loc.foot L2 D ∧ DVs L2 F2 acc vacc ∧ acc.length ≤ i ∧
      wp (lcGo f (xs.drop i) s2) (fun ys s' => okAt rD Q L1 F1 H1 (.lst (acc ++ ys)) s') (Kx X.mg E L1 F1 H1)) ?_ (fun i H2 _ ⟨s2, L2, F2, acc, vacc, w2, e2, _⟩ => hG L2 s2 F2 H2 w2 e2.gr) ?_ ?_
    · refine ⟨s1, L1, F1, [], [], wp0, ep0, upd_same, hF1, nf1, rfl, Nat.le_refl _, ?_⟩
      rw [List.drop_zero]
      exact wp_mono h1 (fun ys s' h2 => okAt.ext h2 e1) fun _ _ z => z.ext e1
    · intro i x H2 H3 hi ⟨s2, L2, F2, acc, vacc, w2, e2, hD2, hF2, nf2, ha, hal, hw⟩ hy
      obtain ⟨d, hd⟩ : ∃ d, xs[i]? = some d := ⟨xs[i], List.getElem?_eq_getElem hi⟩
      obtain ⟨F3, w3, e3, dv3⟩ := hY i d L2 s2 F2 H2 x H3 hd w2 e2.gr hy
      have R3 := R1.ext w3 (e2.trans e3)
      have hdr : xs.drop i = d :: xs.drop (i + 1) := by
        rw [List.drop_eq_getElem_cons hi]
        congr 1
        exact (List.getElem?_eq_some_iff.mp hd).2
      rw [hdr] at hw
      simp only [lcGo] at hw
      have hfd : f d = M.calm (M.bind (M.opt (bindT tg d (Env.wipe Γ own))) fun Γ' => M.bind (evalC cond Γ') fun k => if k = true then M.bind (eval elt Γ') fun y => M.ret (some y) else M.ret none) := by rw [← hf]
      rw [wp_bind, hfd] at hw
      have hw := wp_calm hw
      rw [wp_bind, wp_opt] at hw
      obtain ⟨Γ', hb, hw⟩ := hw
      refine bind_tg tg (R3.wipe own) dv3 hb fun σ' R' hwp => ⟨by rw [hwp own hn, wipe_wipe], cond_read R' hw fun b s4 L4 F4 H4 w4 e4 hw4 => ?_⟩
      have e24 : Ext L2 F2 H2 L4 F4 H4 := e3.trans e4
      have stay : ∀ {L5 F5 H5}, Ext L2 F2 H2 L5 F5 H5 → H5 D = some (.lst vacc) ∧ F5 D = none ∧ ¬ Loc.foot L5 D := fun {L5 F5 H5} e => by
        have q := e.old D _ hD2 nf2
        refine ⟨q, ?_, fun z => ?_⟩
        · cases r : F5 D with
          | none => rfl
          | some y =>
            rcases e.fresh D hF2 (by rw [r]; simp) with z | ⟨ys, z⟩
            · rw [hD2] at z; cases z
            · rw [q] at z; cases z
        · rcases e.foot D z with z | z
          · exact nf2 z
          · rw [hD2] at z; cases z
      cases b with
      | false =>
        rw [if_neg Bool.false_ne_true] at hw4 ⊢
        obtain ⟨q1, q2, q3⟩ := stay e24
        have hw4 : wp (M.bind (lcGo f (xs.drop (i + 1))) (fun ys => M.ret ys) s4) _ _ := hw4
        rw [wp_bind] at hw4
        exact ⟨s4, L4, F4, acc, vacc, w4, e2.trans e24, q1, q2, q3, e24.dvs ha, Nat.le_succ_of_le hal, hw4⟩
      | true =>
        rw [if_pos rfl] at hw4 ⊢
        rw [wp_bind] at hw4
        refine ⟨Γ', s4, L4, F4, L0, F0, H0, R'.ext w4 e4, wp_mono hw4 (fun d' s5 h5 y L5 F5 H5 w5 e5 dv5 => ?_) fun _ _ z => z.elim⟩
        have e25 : Ext L2 F2 H2 L5 F5 H5 := e24.trans e5
        obtain ⟨q1, q2, q3⟩ := stay e25
        have h5 : wp (M.bind (lcGo f (xs.drop (i + 1))) (fun ys => M.ret (d' :: ys)) s5) _ _ := h5
        rw [wp_bind] at h5
        refine ⟨vacc, q1, ?_, s5, L5, F5, acc ++ [d'], vacc ++ [y], w5.setOwn q2 q3, (e2.trans e25).setOwn q2 hD, upd_same, q2, q3, (e25.dvs ha).append ⟨y, [], rfl, dv5, rfl⟩, by rw [List.length_append]; simp; omega, ?_⟩
        · rw [← ha.len]
          have : lim < sizeLine := by rw [sizeLine_eq]; decide
          omega
        · refine wp_mono h5 (fun ys s' h6 => ?_) fun _ _ z => z
          rw [List.append_assoc]
          exact (show okAt rD Q L1 F1 H1 (.lst (acc ++ (d' :: ys))) s' from h6)
    · intro H2 ⟨s2, L2, F2, acc, vacc, w2, e2, hD2, hF2, nf2, ha, hal, hw⟩
      rw [List.drop_length] at hw
      have hw : okAt rD Q L1 F1 H1 (.lst (acc ++ [])) s2 := hw
      rw [List.append_nil] at hw
      refine hw (.ref D) L2 (upd F2 D (.lst vacc)) H2 (w2.tellOwn hD2 hF2 nf2) (e2.tellOwn hF2 hD) ⟨D, vacc, rfl, upd_same, ?_⟩
      exact DVs.ext (fun a o h => by rw [upd_ne (ne_of_none h hF2)]; exact h) (fun n a r h => ⟨r, h⟩) _ _ ha
  · rw [if_neg hlim] at h1
    exact h1.elim
def notSet : Expr → Bool
  | .Set _ _ _ => false
  | _ => true
theorem noFold {e : Expr} {env : PySem.Env} (h : notSet e = true) (x : Value) : foldedSetIterable e env x = pure x := by
  cases e <;> first | rfl | (cases h; done)
/-- the places of the block's own names -/
def ownP (N : List Str) (own : List Nat) : List (Str × Nat) := own.map fun i => (N.getD i (Str.ofString ""), i)
theorem ownP_snd (N : List Str) (own : List Nat) : (ownP N own).map (·.2) = own := by
  unfold ownP
  rw [List.map_map]
  conv => rhs; rw [← List.map_id own]
  rfl
end
end Mini

end
section
set_option linter.all false
set_option autoImplicit false
set_option maxRecDepth 100000
set_option maxHeartbeats 2000000
/-! Snd9: the check of an expression against its Mini form, and the theorem. -/
namespace Mini
open PySem PySem.Spec L2
open PyProof.Rows hiding St
variable [KFrag]

inductive Use where
  | call (f : Str) (kw : List Str) (m : List D → M D) (n : Nat)
  | glob (x : Str) (i : Int)
  | exc (c : Str)
def UseOk (X : Cx) : Use → Prop
  | .call f kw m n => CallOk X f kw m n
  | .glob x i => ∃ t, X.mg x = some (.int i t)
  | .exc c => ∃ (C : Addr) (B newId initId : String) (bmB : List Value), X.mg c = some (.ref C) ∧ ExcBaseFacts B newId initId bmB ∧ PySem.W.excIn X.K C bmB newId = true ∧ PySem.W.keepIn X.K (.ref C) = true ∧ Raises X (.ref C)
mutual
def ME.uses (P : Use → Prop) : ME → Prop
  | .non => True | .bl _ => True | .int _ => True | .str _ => True
  | .glob x i => P (.glob x i)
  | .var _ => True
  | .bin _ a b => ME.uses P a ∧ ME.uses P b
  | .neg a => ME.uses P a | .inv a => ME.uses P a
  | .cmp _ a b => ME.uses P a ∧ ME.uses P b
  | .cmp2 _ _ a b c => ME.uses P a ∧ ME.uses P b ∧ ME.uses P c
  | .andE a b => ME.uses P a ∧ ME.uses P b
  | .orE a b => ME.uses P a ∧ ME.uses P b
  | .notE a => ME.uses P a
  | .ife t a b => ME.uses P t ∧ ME.uses P a ∧ ME.uses P b
  | .tup es => ME.usess P es | .lst es => ME.usess P es
  | .call f kw m es => P (.call f kw m es.length) ∧ ME.usess P es
  | .blt _ es => ME.usess P es
  | .isi a _ => ME.uses P a
  | .sub a i => ME.uses P a ∧ ME.uses P i
  | .sl a lo hi => ME.uses P a ∧ ME.useso P lo ∧ ME.useso P hi
  | .rev a => ME.uses P a
  | .dic0 => True | .dic1 a => ME.uses P a
  | .lc _ _ src cond elt => ME.uses P src ∧ ME.useso P cond ∧ ME.uses P elt
  | .rng1 a => ME.uses P a | .rng2 a b => ME.uses P a ∧ ME.uses P b
  | .zip a b => ME.uses P a ∧ ME.uses P b
  | .enm a => ME.uses P a
  | .res a => ME.uses P a
def ME.usess (P : Use → Prop) : List ME → Prop
  | [] => True
  | e :: es => ME.uses P e ∧ ME.usess P es
def ME.useso (P : Use → Prop) : Option ME → Prop
  | none => True
  | some e => ME.uses P e
end
def isOp (o : Bop) : Operator → Bool := fun p => match o, p with
  | .add, .Add => true | .sub, .Sub => true | .mul, .Mult => true | .fdiv, .FloorDiv => true | .mod, .Mod => true | .pow, .Pow => true | .band, .BitAnd => true | .bxor, .BitXor => true
  | _, _ => false
theorem isOp_eq {o : Bop} {p : Operator} (h : isOp o p = true) : p = opOf o := by
  cases o <;> cases p <;> first | rfl | cases h
def isCop (o : Cop) : CmpOp → Bool := fun p => match o, p with
  | .eq, .Eq => true | .ne, .NotEq => true | .lt, .Lt => true | .le, .LtE => true | .gt, .Gt => true | .ge, .GtE => true | .isIn, .In => true | .notIn, .NotIn => true | .is, .Is => true | .isNot, .IsNot => true
  | _, _ => false
theorem isCop_eq {o : Cop} {p : CmpOp} (h : isCop o p = true) : p = cOf o := by
  cases o <;> cases p <;> first | rfl | cases h
def isVis (sc : Scope) (x : Str) : Bool := match sc.names.lookup x with
  | some .local => true | some .cell => true | some .free => true
  | _ => false
def isGl (sc : Scope) (x : Str) : Bool := match sc.names.lookup x with
  | some .globalImplicit => true
  | _ => false
theorem vis_of {sc : Scope} {x : Str} (h : isVis sc x = true) : Vis sc x := by
  unfold isVis at h
  split at h <;> first | (left; assumption) | (right; left; assumption) | (right; right; assumption) | cases h
theorem gl_of {X : Cx} {sc : Scope} {x : Str} (hs : X.env.scope = sc) (h : isGl sc x = true) : Gl X x := by
  unfold isGl at h
  split at h
  · show X.env.scope.names.lookup x = _
    rw [hs]; assumption
  · cases h
def plainN (x : Str) : Bool := !(x == ("__debug__" : Str)) && !(x == ("__classdict__" : Str)) && !(x == ("__name__" : Str))
theorem plainN_of {x : Str} (h : plainN x = true) : (x == ("__debug__" : Str)) = false ∧ (x == ("__classdict__" : Str)) = false ∧ x ≠ "__name__" := by
  unfold plainN at h
  simp only [Bool.and_eq_true, Bool.not_eq_true'] at h
  exact ⟨h.1.1, h.1.2, by simpa using h.2⟩
def bltName : Bf → Str
  | .len => "len" | .all => "all" | .tuple => "tuple" | .list => "list" | .mx2 => "max" | .mn2 => "min" | .min => "min" | .sorted => "sorted" | .lenSet => "len" | .sortSet => "sorted"
def bltOn : Bf → Bool
  | .len | .all | .tuple | .list | .mx2 | .mn2 => true
  | _ => false
mutual
def chk (N : List Str) : ME → Bool → Scope → Expr → Bool
  | .non, it, sc, e => match e with | .Constant .none _ _ => true | _ => false
  | .bl b, it, sc, e => match e with | .Constant (.bool c) _ _ => b == c | _ => false
  | .int i, it, sc, e => match e with | .Constant (.int j) _ _ => i == j | _ => false
  | .str s, it, sc, e => match e with | .Constant (.str t) _ _ => s == t | _ => false
  | .glob x i, it, sc, e => match e with | .Name y _ => x == y && isGl sc y && plainN y | _ => false
  | .var i, it, sc, e => match e with | .Name x _ => decide (N[i]? = some x) && isVis sc x && plainN x | _ => false
  | .bin o a b, it, sc, e => match e with | .BinOp l p r _ => isOp o p && chk N a false sc l && chk N b false sc r | _ => false
  | .neg a, it, sc, e => match e with | .UnaryOp .USub l _ => chk N a false sc l | _ => false
  | .inv a, it, sc, e => match e with | .UnaryOp .Invert l _ => chk N a false sc l | _ => false
  | .notE a, it, sc, e => match e with | .UnaryOp .Not l _ => chk N a false sc l | _ => false
  | .cmp o a b, it, sc, e => match e with | .Compare l [p] [r] _ => isCop o p && chk N a false sc l && chk N b false sc r | _ => false
  | .cmp2 o o' a b c, it, sc, e => match e with | .Compare l [p, p'] [r, r'] _ => isCop o p && isCop o' p' && chk N a false sc l && chk N b false sc r && chk N c false sc r' | _ => false
  | .andE a b, it, sc, e => match e with
    | .BoolOp .And [x, y] _ => chk N a false sc x && chk N b false sc y
    | .BoolOp .And (x :: y :: z :: r) p => chk N a false sc x && chk N b false sc (.BoolOp .And (y :: z :: r) p)
    | _ => false
  | .orE a b, it, sc, e => match e with
    | .BoolOp .Or [x, y] _ => chk N a false sc x && chk N b false sc y
    | .BoolOp .Or (x :: y :: z :: r) p => chk N a false sc x && chk N b false sc (.BoolOp .Or (y :: z :: r) p)
    | _ => false
  | .ife t a b, it, sc, e => match e with | .IfExp x y z _ => chk N t false sc x && chk N a false sc y && chk N b false sc z | _ => false
  | .tup es, it, sc, e => match e with | .Tuple xs _ _ => decide (es.length ≤ 1000) && chkA N es sc xs [] | _ => false
  | .lst es, it, sc, e => match e with | .List xs _ => decide (es.length ≤ 1000) && chkA N es sc xs [] | _ => false
  | .call f kw m es, it, sc, e => match e with
    | .Call (.Name x _) xs ks _ => x == f && isGl sc x && plainN x && decide (ks.map (·.arg) = kw.map some) && chkA N es sc xs ks
    | _ => false
  | .blt f es, it, sc, e => match e with
    | .Call (.Name x _) (y :: ys) [] _ => x == bltName f && bltOn f && isGl sc x && chkA N es sc (y :: ys) []
    | _ => false
  | .isi a t, it, sc, e => match e with
    | .Call (.Name x _) [y, .Name z _] [] _ => x == "isinstance" && isGl sc x && z == Str.ofString (tyName t) && isGl sc z && chk N a false sc y
    | _ => false
  | .sub a i, it, sc, e => match e with | .Subscript x y _ => chk N a false sc x && chk N i false sc y | _ => false
  | .sl a lo hi, it, sc, e => match e with
    | .Subscript x (.Slice l h none _) _ => chk N a false sc x && chkO N lo sc l && chkO N hi sc h
    | _ => false
  | .rev a, it, sc, e => false
  | .dic0, it, sc, e => false
  | .dic1 a, it, sc, e => false
  | .lc own tg src cond elt, it, sc, e => match e with
    | .ListComp y [⟨t, x, cs, ia⟩] scope _ => decide (ia = 0) && blkC N sc scope (ownP N own) && (Tg.names tg).all (fun i => own.contains i) && chkT N scope tg t && chk N src true sc x && (match src with | .zip _ _ => (match t with | .Tuple _ _ _ => true | _ => false) | _ => true) &&
        chkC N cond (relS scope sc) cs && chk N elt false (relS scope sc) y
    | _ => false
  | .rng1 a, it, sc, e => match e with
    | .Call (.Name x _) [y] [] _ => it && x == "range" && isGl sc x && chk N a false sc y
    | _ => false
  | .rng2 a b, it, sc, e => match e with
    | .Call (.Name x _) [y, z] [] _ => it && x == "range" && isGl sc x && chk N a false sc y && chk N b false sc z
    | _ => false
  | .zip a b, it, sc, e => match e with
    | .Call (.Name x _) [y, z] [] _ => it && x == "zip" && isGl sc x && chk N a false sc y && chk N b false sc z
    | _ => false
  | .enm a, it, sc, e => false
  | .res a, it, sc, e => false
def chkA (N : List Str) : List ME → Scope → List Expr → List Keyword → Bool
  | [], sc, xs, ks => match xs, ks with | [], [] => true | _, _ => false
  | m :: ms, sc, xs, ks => match xs, ks with
    | x :: xs, ks => chk N m false sc x && chkA N ms sc xs ks
    | [], k :: ks => chk N m false sc k.value && chkA N ms sc [] ks
    | [], [] => false
def chkO (N : List Str) : Option ME → Scope → Option Expr → Bool
  | none, sc, e => match e with | none => true | _ => false
  | some m, sc, e => match e with | some x => chk N m false sc x | _ => false
def chkC (N : List Str) : Option ME → Scope → List Expr → Bool
  | none, sc, e => match e with | [] => true | _ => false
  | some m, sc, e => match e with | [x] => chk N m false sc x | _ => false
end
def good : Expr → Bool
  | .Starred _ _ => false
  | .Slice _ _ _ _ => false
  | .Set _ _ _ => false
  | _ => true
theorem good_of {N : List Str} {m : ME} {it : Bool} {sc : Scope} {e : Expr} (h : chk N m it sc e = true) : good e = true := by
  cases m <;> simp only [chk, Bool.false_eq_true] at h <;> (split at h <;> first | rfl | (exfalso; exact Bool.false_ne_true h))
theorem good_plain {e : Expr} (h : good e = true) : plainE e = true := by cases e <;> first | rfl | cases h
theorem good_slice {e : Expr} (h : good e = true) : notSlice e = true := by cases e <;> first | rfl | cases h
theorem good_set {e : Expr} (h : good e = true) : notSet e = true := by cases e <;> first | rfl | cases h
theorem good_marks {e : Expr} {op : CmpOp} (h : good e = true) : behindInMarks op e = false := by cases e <;> first | rfl | cases h
end Mini

end
section
set_option linter.all false
set_option autoImplicit false
set_option maxRecDepth 100000
set_option maxHeartbeats 4000000
/-! Snd10: what is checked does what its Mini form says. -/
namespace Mini
open PySem PySem.Spec L2
open PyProof.Rows hiding St
variable [KFrag]

/-- an expression does what m says: as a value and as a test -/
structure Does (X : Cx) (E : XK) (m : ME) (e : Expr) : Prop where
  pe : PE X e (tEv X.mg E m)
  pt : PT X e (tTv X.mg E m)
def SndE (N : List Str) (m : ME) : Prop := ∀ (X : Cx) (sc : Scope) (E : XK) (e : Expr), XOk X N sc E → ME.uses (UseOk X) m → chk N m false sc e = true → Does X E m e
def SndI (N : List Str) (m : ME) : Prop := ∀ (X : Cx) (sc : Scope) (E : XK) (e tg : Expr), XOk X N sc E → ME.uses (UseOk X) m → chk N m true sc e = true →
  (match m with | .zip _ _ => ∃ es k p, tg = .Tuple es k p | _ => True) → PI X tg e (tI X.mg E m)
def SndA (N : List Str) (ms : List ME) : Prop := ∀ (X : Cx) (sc : Scope) (E : XK) (xs : List Expr) (ks : List Keyword), XOk X N sc E → ME.usess (UseOk X) ms → chkA N ms sc xs ks = true →
  ∃ as bs, ms = as ++ bs ∧ PA X xs (tEvs X.mg E as) ∧ PK X ks (tEvs X.mg E bs) ∧ xs.all plainE = true ∧ xs.length = as.length ∧ ks.length = bs.length
def SndO (N : List Str) (o : Option ME) : Prop := ∀ (X : Cx) (sc : Scope) (E : XK) (e : Option Expr), XOk X N sc E → ME.useso (UseOk X) o → chkO N o sc e = true → PO X e (tM X.mg E rO (evalO o))
def SndC (N : List Str) (o : Option ME) : Prop := ∀ (X : Cx) (sc : Scope) (es : List Expr), XOk X N sc E0 → ME.useso (UseOk X) o → chkC N o sc es = true → PTs X es (tCond X.mg o)
theorem XOk.mem {X : Cx} {N : List Str} {sc : Scope} {E : XK} (ok : XOk X N sc E) {x : Str} (h : x ∈ bnames) : X.mg x = none := ok.blt x h
/-- a comprehension's block -/
theorem XOk.blk {X : Cx} {N : List Str} {sc : Scope} {E : XK} (ok : XOk X N sc E) (s : Shared) (H : Hp) (scope : Scope) (C : Addr) (cl : List (Str × Addr)) (fp : List Addr) :
    XOk (X.blk s H scope (compEnvC scope cl C X.env) fp) N (relS scope sc) E0 := by
  refine ⟨ok.hN, ?_, ok.nd, ok.calm, fun pins σ H' s' e s'' _ c => ?_, ok.hu, ok.blt⟩
  · rw [← ok.sc]; rfl
  · obtain ⟨_, _, _, _, _, _, _, _, _, _, _, _, z⟩ := c
    exact z
theorem mayStore_blk {X : Cx} (s : Shared) (H : Hp) (scope : Scope) (C : Addr) (cl : List (Str × Addr)) (fp : List Addr) : MayStore (X.blk s H scope (compEnvC scope cl C X.env) fp) scope := by
  intro x h
  have e : (X.blk s H scope (compEnvC scope cl C X.env) fp).env.scope = relS scope X.env.scope := rfl
  rw [e]
  rcases h with h | h
  · have : (relS scope X.env.scope).names.lookup x = some .local := lookup_relS_keep (by decide) h
    exact ⟨.inl this, .inr this⟩
  · have : (relS scope X.env.scope).names.lookup x = some .cell := lookup_relS_keep (by decide) h
    exact ⟨.inr this, .inl (by show (scope.names.lookup x == some NameKind.cell) = true; rw [h]; rfl)⟩
section
variable {N : List Str}
/-- by a value: the test is the value's truth -/
theorem does_val {X : Cx} {E : XK} {m : ME} {e : Expr} (h : PE X e (tEv X.mg E m)) (he : ∀ whole, isTrue e X.env whole = (do let v ← whole; standAt e.pos; holding [v] (truthy v)) := by intro _; rfl) : Does X E m e := ⟨h, st_val h he⟩
theorem pw_of {X : Cx} {op : BoolOp} {vs : List Expr} {p : Pos} {t : TT} (h : PT X (.BoolOp op vs p) t) : PW X (.BoolOp op vs p) t := ⟨fun _ pins s σ H Q I q => h.run pins s σ H Q I q⟩
theorem blt_str {f : Bf} (h : bltOn f = true) : bltName f ∈ bnames := by cases f <;> first | (cases h; done) | decide +kernel
theorem itE {m : ME} (hm : ∀ it sc e, chk N m it sc e = chk N m false sc e) (hz : ∀ a b, m ≠ .zip a b) (h : SndE N m) : SndI N m := by
  intro X sc E e tg ok hu hc _
  rw [hm] at hc
  exact PI.imp (si_seq (h X sc E e ok hu hc).pe) fun σ H Q q => q
theorem sndLc {own : List Nat} {tg : Tg} {src elt : ME} {cond : Option ME} (h1 : SndI N src) (h2 : SndC N cond) (h3 : SndE N elt) : SndE N (.lc own tg src cond elt) := by
  intro X sc E e ok hu hc
  simp only [chk] at hc
  split at hc
  · rename_i y t x cs ia scope p
    simp only [Bool.and_eq_true, decide_eq_true_eq] at hc
    obtain ⟨⟨⟨⟨⟨⟨⟨hia, hb⟩, hn⟩, ht⟩, hs⟩, hz⟩, hcc⟩, he⟩ := hc
    subst hia
    simp only [ME.uses] at hu
    obtain ⟨u1, u2, u3⟩ := hu
    have hn' : ∀ i, i ∈ Tg.names tg → i ∈ own := fun i hi => by
      rw [List.all_eq_true] at hn
      exact List.contains_iff_mem.mp (hn i hi)
    have hok : BlkOk X.N X.env.scope scope (ownP N own) := by rw [ok.hN, ok.sc]; exact blkOk_by hb
    have pi := h1 X sc E x t ok u1 hs (by
      cases src <;> first | trivial | skip
      cases t <;> first | exact ⟨_, _, _, rfl⟩ | (cases hz; done))
    have pe := pe_lc (pos := p) (g := rTg X.K tg) (tt := tCond X.mg cond) (te := tEv X.mg E0 elt) ok.calm (by rw [ok.hN]; exact ok.nd) pi hok
      (fun s H C cl fp => sg (tsc := scope) (X := X.blk s H scope (compEnvC scope cl C X.env) fp) ok.hN ok.nd ok.calm (mayStore_blk s H scope C cl fp) tg t ht)
      (fun s H C cl fp => h2 _ _ cs (ok.blk s H scope C cl fp) u2 hcc)
      (fun s H C cl fp => (h3 _ _ _ y (ok.blk s H scope C cl fp) u3 he).pe) (noFold (good_set (good_of hs)))
    refine does_val (PE.imp pe fun σ H Q q => ?_)
    rw [ownP_snd]
    exact lc_read hn' q
  · cases hc
mutual
theorem snd : ∀ m : ME, SndE N m
  | .non => fun X sc E e ok hu hc => by
    simp only [chk] at hc
    split at hc
    · exact does_val (s_const (d := .non) (v := .non) pe_non (fun _ => rfl) fun _ _ => rfl)
    · cases hc
  | .bl b => fun X sc E e ok hu hc => by
    simp only [chk] at hc
    split at hc
    · rw [beq_iff_eq] at hc
      subst hc
      exact does_val (s_const (d := .bl b) (v := .bl b) pe_bl (fun _ => rfl) fun _ _ => rfl)
    · cases hc
  | .int i => fun X sc E e ok hu hc => by
    simp only [chk] at hc
    split at hc
    · rw [beq_iff_eq] at hc
      subst hc
      exact does_val (s_const (d := .int i) (v := .int i) pe_int (fun _ => rfl) fun _ _ => rfl)
    · cases hc
  | .str i => fun X sc E e ok hu hc => by
    simp only [chk] at hc
    split at hc
    · rw [beq_iff_eq] at hc
      subst hc
      exact does_val (s_const (d := .str i) (v := .str i) pe_str (fun _ => rfl) fun _ _ => rfl)
    · cases hc
  | .glob x i => fun X sc E e ok hu hc => by
    simp only [chk] at hc
    split at hc
    · simp only [Bool.and_eq_true, beq_iff_eq] at hc
      obtain ⟨⟨rfl, h2⟩, h3⟩ := hc
      obtain ⟨t, ht⟩ := hu
      exact does_val (s_const (d := .int i) (v := .int i) (pe_glob (gl_of ok.sc h2) ht ⟨t, rfl⟩ (plainN_of h3).1) (fun _ => rfl) fun _ _ => rfl)
    · cases hc
  | .var i => fun X sc E e ok hu hc => by
    simp only [chk] at hc
    split at hc
    · simp only [Bool.and_eq_true, decide_eq_true_eq] at hc
      obtain ⟨⟨h1, h2⟩, h3⟩ := hc
      exact does_val (s_var (by rw [ok.hN]; exact h1) (by rw [ok.sc]; exact vis_of h2) (plainN_of h3).1 (plainN_of h3).2.1)
    · cases hc
  | .bin o a b => fun X sc E e ok hu hc => by
    simp only [chk] at hc
    split at hc
    · simp only [Bool.and_eq_true] at hc
      obtain ⟨⟨h1, h2⟩, h3⟩ := hc
      obtain rfl := isOp_eq h1
      exact does_val (s_bin (snd a X sc E _ ok hu.1 h2).pe (snd b X sc E _ ok hu.2 h3).pe)
    · cases hc
  | .neg a => fun X sc E e ok hu hc => by
    simp only [chk] at hc
    split at hc
    · exact does_val (s_neg (snd a X sc E _ ok hu hc).pe)
    · cases hc
  | .inv a => fun X sc E e ok hu hc => by
    simp only [chk] at hc
    split at hc
    · exact does_val (s_inv (snd a X sc E _ ok hu hc).pe)
    · cases hc
  | .notE a => fun X sc E e ok hu hc => by
    simp only [chk] at hc
    split at hc
    · have h := snd a X sc E _ ok hu hc
      exact ⟨s_not h.pe, st_not h.pt⟩
    · cases hc
  | .cmp o a b => fun X sc E e ok hu hc => by
    simp only [chk] at hc
    split at hc
    · simp only [Bool.and_eq_true] at hc
      obtain ⟨⟨h1, h2⟩, h3⟩ := hc
      obtain rfl := isCop_eq h1
      have ha := (snd a X sc E _ ok hu.1 h2).pe
      have hb := (snd b X sc E _ ok hu.2 h3).pe
      exact ⟨s_cmp ok.hu ha hb (good_marks (good_of h3)), st_cmp ok.hu ha hb (good_marks (good_of h3))⟩
    · cases hc
  | .cmp2 o o' a b c => fun X sc E e ok hu hc => by
    simp only [chk] at hc
    split at hc
    · simp only [Bool.and_eq_true] at hc
      obtain ⟨⟨⟨⟨h1, h1'⟩, h2⟩, h3⟩, h4⟩ := hc
      obtain rfl := isCop_eq h1
      obtain rfl := isCop_eq h1'
      have ha := (snd a X sc E _ ok hu.1 h2).pe
      have hb := (snd b X sc E _ ok hu.2.1 h3).pe
      have hcc := (snd c X sc E _ ok hu.2.2 h4).pe
      exact ⟨s_cmp2 ok.hu ha hb hcc (good_marks (good_of h4)), st_cmp2 ok.hu ha hb hcc (good_marks (good_of h4))⟩
    · cases hc
  | .andE a b => fun X sc E e ok hu hc => by
    simp only [chk] at hc
    split at hc
    · simp only [Bool.and_eq_true] at hc
      have ha := snd a X sc E _ ok hu.1 hc.1
      have hb := snd b X sc E _ ok hu.2 hc.2
      exact ⟨s_and ha.pe (pe_one hb.pe), (st_and ha.pt (pw_and1 hb.pt)).pt⟩
    · simp only [Bool.and_eq_true] at hc
      have ha := snd a X sc E _ ok hu.1 hc.1
      have hb := snd b X sc E _ ok hu.2 hc.2
      exact ⟨s_and ha.pe hb.pe, (st_and ha.pt (pw_of hb.pt)).pt⟩
    · cases hc
  | .orE a b => fun X sc E e ok hu hc => by
    simp only [chk] at hc
    split at hc
    · simp only [Bool.and_eq_true] at hc
      have ha := snd a X sc E _ ok hu.1 hc.1
      have hb := snd b X sc E _ ok hu.2 hc.2
      exact ⟨s_or ha.pe (pe_one hb.pe), (st_or ha.pt (pw_or1 hb.pt)).pt⟩
    · simp only [Bool.and_eq_true] at hc
      have ha := snd a X sc E _ ok hu.1 hc.1
      have hb := snd b X sc E _ ok hu.2 hc.2
      exact ⟨s_or ha.pe hb.pe, (st_or ha.pt (pw_of hb.pt)).pt⟩
    · cases hc
  | .ife t a b => fun X sc E e ok hu hc => by
    simp only [chk] at hc
    split at hc
    · simp only [Bool.and_eq_true] at hc
      obtain ⟨⟨h1, h2⟩, h3⟩ := hc
      have ht := snd t X sc E _ ok hu.1 h1
      have ha := snd a X sc E _ ok hu.2.1 h2
      have hb := snd b X sc E _ ok hu.2.2 h3
      exact ⟨s_ife ht.pt ha.pe hb.pe, st_ife ht.pt ha.pt hb.pt⟩
    · cases hc
  | .tup es => fun X sc E e ok hu hc => by
    simp only [chk] at hc
    split at hc
    · simp only [Bool.and_eq_true, decide_eq_true_eq] at hc
      obtain ⟨as, bs, rfl, pa, pk, hp, l1, l2⟩ := snds es X sc E _ [] ok hu hc.2
      obtain rfl : bs = [] := List.eq_nil_of_length_eq_zero l2.symm
      rw [List.append_nil] at hc ⊢
      exact does_val (s_tup pa hc.1)
    · cases hc
  | .lst es => fun X sc E e ok hu hc => by
    simp only [chk] at hc
    split at hc
    · simp only [Bool.and_eq_true, decide_eq_true_eq] at hc
      obtain ⟨as, bs, rfl, pa, pk, hp, l1, l2⟩ := snds es X sc E _ [] ok hu hc.2
      obtain rfl : bs = [] := List.eq_nil_of_length_eq_zero l2.symm
      rw [List.append_nil] at hc ⊢
      exact does_val (s_lst pa hc.1)
    · cases hc
  | .call f kw m es => fun X sc E e ok hu hc => by
    simp only [chk] at hc
    split at hc
    · simp only [Bool.and_eq_true, decide_eq_true_eq, beq_iff_eq] at hc
      obtain ⟨⟨⟨⟨h1, h2⟩, h3⟩, h4⟩, h5⟩ := hc
      simp only [ME.uses] at hu
      obtain ⟨u1, u2⟩ := hu
      obtain ⟨as, bs, rfl, pa, pk, hp, l1, l2⟩ := snds es X sc E _ _ ok u2 h5
      refine does_val (s_call ok.pass u1 h1 (gl_of ok.sc h2) (plainN_of h3).1 pa pk hp h4 ?_ l1)
      have := congrArg List.length h4
      rw [List.length_map, List.length_map] at this
      rw [← l2, this]
    · cases hc
  | .blt f es => fun X sc E e ok hu hc => by
    simp only [chk] at hc
    split at hc
    · simp only [Bool.and_eq_true, beq_iff_eq] at hc
      obtain ⟨⟨⟨h1, h2⟩, h3⟩, h4⟩ := hc
      obtain ⟨as, bs, rfl, pa, pk, hp, l1, l2⟩ := snds es X sc E _ [] ok hu h4
      obtain rfl : bs = [] := List.eq_nil_of_length_eq_zero l2.symm
      rw [List.append_nil]
      have hm := ok.mem (blt_str h2)
      subst h1
      have hg := gl_of ok.sc h3
      cases f <;> first | cases h2; done | skip
      · exact does_val (s_bltB len_ok hg hm (by decide +kernel) (by decide +kernel) (by decide +kernel) pa hp)
      · exact does_val (s_bltB (all_ok ok.calm) hg hm (by decide +kernel) (by decide +kernel) (by decide +kernel) pa hp)
      · exact does_val (s_bltT tuple_ok hg hm (by decide +kernel) (by decide +kernel) (by decide +kernel) pa hp)
      · exact does_val (s_bltT list_ok hg hm (by decide +kernel) (by decide +kernel) (by decide +kernel) pa hp)
      · exact does_val (s_bltB (mx2_ok ok.calm) hg hm (by decide +kernel) (by decide +kernel) (by decide +kernel) pa hp)
      · exact does_val (s_bltB (mn2_ok ok.calm) hg hm (by decide +kernel) (by decide +kernel) (by decide +kernel) pa hp)
    · cases hc
  | .isi a t => fun X sc E e ok hu hc => by
    simp only [chk] at hc
    split at hc
    · simp only [Bool.and_eq_true, beq_iff_eq] at hc
      obtain ⟨⟨⟨⟨h1, h2⟩, h3⟩, h4⟩, h5⟩ := hc
      have hz : Str.ofString (tyName t) ∈ bnames := by cases t <;> simp [tyName, bnames]
      exact does_val (s_isi (gl_of ok.sc h2) h1 (ok.mem (by simp [bnames])) (gl_of ok.sc h4) h3 (by rw [h3]; exact ok.mem hz) (good_plain (good_of h5)) (snd a X sc E _ ok hu h5).pe)
    · cases hc
  | .sub a i => fun X sc E e ok hu hc => by
    simp only [chk] at hc
    split at hc
    · simp only [Bool.and_eq_true] at hc
      exact does_val (s_sub (snd a X sc E _ ok hu.1 hc.1).pe (snd i X sc E _ ok hu.2 hc.2).pe (good_slice (good_of hc.2)))
    · cases hc
  | .sl a lo hi => fun X sc E e ok hu hc => by
    simp only [chk] at hc
    split at hc
    · simp only [Bool.and_eq_true] at hc
      exact does_val (s_sl (snd a X sc E _ ok hu.1 hc.1.1).pe (sndo lo X sc E _ ok hu.2.1 hc.1.2) (sndo hi X sc E _ ok hu.2.2 hc.2))
    · cases hc
  | .rev a => fun X sc E e ok hu hc => by simp [chk] at hc
  | .dic0 => fun X sc E e ok hu hc => by simp [chk] at hc
  | .dic1 a => fun X sc E e ok hu hc => by simp [chk] at hc
  | .lc own tg src cond elt => sndLc (sndi src) (sndc cond) (snd elt)
  | .rng1 a => fun X sc E e ok hu hc => by
    simp only [chk] at hc
    split at hc
    · simp at hc
    · cases hc
  | .rng2 a b => fun X sc E e ok hu hc => by
    simp only [chk] at hc
    split at hc
    · simp at hc
    · cases hc
  | .zip a b => fun X sc E e ok hu hc => by
    simp only [chk] at hc
    split at hc
    · simp at hc
    · cases hc
  | .enm a => fun X sc E e ok hu hc => by simp [chk] at hc
  | .res a => fun X sc E e ok hu hc => by simp [chk] at hc
theorem sndi : ∀ m : ME, SndI N m
  | .rng1 a => fun X sc E e tg ok hu hc ht => by
    simp only [chk] at hc
    split at hc
    · simp only [Bool.and_eq_true, beq_iff_eq] at hc
      obtain ⟨⟨⟨h0, h1⟩, h2⟩, h3⟩ := hc
      exact si_rng1 h1 (gl_of ok.sc h2) (ok.mem (by simp [bnames])) (snd a X sc E _ ok hu h3).pe (good_plain (good_of h3))
    · cases hc
  | .rng2 a b => fun X sc E e tg ok hu hc ht => by
    simp only [chk] at hc
    split at hc
    · simp only [Bool.and_eq_true, beq_iff_eq] at hc
      obtain ⟨⟨⟨⟨h0, h1⟩, h2⟩, h3⟩, h4⟩ := hc
      exact si_rng2 h1 (gl_of ok.sc h2) (ok.mem (by simp [bnames])) (snd a X sc E _ ok hu.1 h3).pe (snd b X sc E _ ok hu.2 h4).pe (good_plain (good_of h3)) (good_plain (good_of h4))
    · cases hc
  | .zip a b => fun X sc E e tg ok hu hc ht => by
    simp only [chk] at hc
    split at hc
    · simp only [Bool.and_eq_true, beq_iff_eq] at hc
      obtain ⟨⟨⟨⟨h0, h1⟩, h2⟩, h3⟩, h4⟩ := hc
      obtain ⟨es, k, p, rfl⟩ := ht
      exact si_zip h1 (gl_of ok.sc h2) (ok.mem (by simp [bnames])) (snd a X sc E _ ok hu.1 h3).pe (snd b X sc E _ ok hu.2 h4).pe (good_plain (good_of h3)) (good_plain (good_of h4))
    · cases hc
  | .non => itE (fun _ _ _ => by simp only [chk]) (fun _ _ z => nomatch z) (snd .non)
  | .bl b => itE (fun _ _ _ => by simp only [chk]) (fun _ _ z => nomatch z) (snd (.bl b))
  | .int b => itE (fun _ _ _ => by simp only [chk]) (fun _ _ z => nomatch z) (snd (.int b))
  | .str b => itE (fun _ _ _ => by simp only [chk]) (fun _ _ z => nomatch z) (snd (.str b))
  | .glob x i => itE (fun _ _ _ => by simp only [chk]) (fun _ _ z => nomatch z) (snd (.glob x i))
  | .var i => itE (fun _ _ _ => by simp only [chk]) (fun _ _ z => nomatch z) (snd (.var i))
  | .bin o a b => itE (fun _ _ _ => by simp only [chk]) (fun _ _ z => nomatch z) (snd (.bin o a b))
  | .neg a => itE (fun _ _ _ => by simp only [chk]) (fun _ _ z => nomatch z) (snd (.neg a))
  | .inv a => itE (fun _ _ _ => by simp only [chk]) (fun _ _ z => nomatch z) (snd (.inv a))
  | .notE a => itE (fun _ _ _ => by simp only [chk]) (fun _ _ z => nomatch z) (snd (.notE a))
  | .cmp o a b => itE (fun _ _ _ => by simp only [chk]) (fun _ _ z => nomatch z) (snd (.cmp o a b))
  | .cmp2 o o' a b c => itE (fun _ _ _ => by simp only [chk]) (fun _ _ z => nomatch z) (snd (.cmp2 o o' a b c))
  | .andE a b => itE (fun _ _ _ => by simp only [chk]) (fun _ _ z => nomatch z) (snd (.andE a b))
  | .orE a b => itE (fun _ _ _ => by simp only [chk]) (fun _ _ z => nomatch z) (snd (.orE a b))
  | .ife t a b => itE (fun _ _ _ => by simp only [chk]) (fun _ _ z => nomatch z) (snd (.ife t a b))
  | .tup es => itE (fun _ _ _ => by simp only [chk]) (fun _ _ z => nomatch z) (snd (.tup es))
  | .lst es => itE (fun _ _ _ => by simp only [chk]) (fun _ _ z => nomatch z) (snd (.lst es))
  | .call f kw m es => itE (fun _ _ _ => by simp only [chk]) (fun _ _ z => nomatch z) (snd (.call f kw m es))
  | .blt f es => itE (fun _ _ _ => by simp only [chk]) (fun _ _ z => nomatch z) (snd (.blt f es))
  | .isi a t => itE (fun _ _ _ => by simp only [chk]) (fun _ _ z => nomatch z) (snd (.isi a t))
  | .sub a i => itE (fun _ _ _ => by simp only [chk]) (fun _ _ z => nomatch z) (snd (.sub a i))
  | .sl a lo hi => itE (fun _ _ _ => by simp only [chk]) (fun _ _ z => nomatch z) (snd (.sl a lo hi))
  | .rev a => itE (fun _ _ _ => by simp only [chk]) (fun _ _ z => nomatch z) (snd (.rev a))
  | .dic0 => itE (fun _ _ _ => by simp only [chk]) (fun _ _ z => nomatch z) (snd .dic0)
  | .dic1 a => itE (fun _ _ _ => by simp only [chk]) (fun _ _ z => nomatch z) (snd (.dic1 a))
  | .lc own tg src cond elt => itE (fun _ _ _ => by simp only [chk]) (fun _ _ z => nomatch z) (snd (.lc own tg src cond elt))
  | .enm a => itE (fun _ _ _ => by simp only [chk]) (fun _ _ z => nomatch z) (snd (.enm a))
  | .res a => itE (fun _ _ _ => by simp only [chk]) (fun _ _ z => nomatch z) (snd (.res a))
theorem snds : ∀ ms : List ME, SndA N ms
  | [] => fun X sc E xs ks ok hu hc => by
    simp only [chkA] at hc
    split at hc
    · exact ⟨[], [], rfl, sa_nil, sk_nil, rfl, rfl, rfl⟩
    · cases hc
  | m :: ms => fun X sc E xs ks ok hu hc => by
    cases xs with
    | cons x xs =>
      simp only [chkA, Bool.and_eq_true] at hc
      obtain ⟨as, bs, rfl, pa, pk, hp, l1, l2⟩ := snds ms X sc E xs ks ok hu.2 hc.2
      have hg := good_plain (good_of hc.1)
      exact ⟨m :: as, bs, rfl, sa_cons (snd m X sc E x ok hu.1 hc.1).pe pa hg, pk, by rw [List.all_cons, hg, hp]; rfl, by rw [List.length_cons, List.length_cons, l1], l2⟩
    | nil =>
      cases ks with
      | cons k ks =>
        simp only [chkA, Bool.and_eq_true] at hc
        obtain ⟨as, bs, rfl, pa, pk, hp, l1, l2⟩ := snds ms X sc E [] ks ok hu.2 hc.2
        obtain rfl : as = [] := List.eq_nil_of_length_eq_zero l1.symm
        obtain ⟨nm, x, p⟩ := k
        exact ⟨[], m :: bs, rfl, sa_nil, sk_cons (snd m X sc E x ok hu.1 hc.1).pe pk, rfl, rfl, by rw [List.length_cons, List.length_cons, l2]⟩
      | nil => simp [chkA] at hc
theorem sndo : ∀ o : Option ME, SndO N o
  | none => fun X sc E e ok hu hc => by
    simp only [chkO] at hc
    split at hc
    · exact so_none
    · cases hc
  | some m => fun X sc E e ok hu hc => by
    simp only [chkO] at hc
    split at hc
    · exact so_some (snd m X sc E _ ok hu hc).pe
    · cases hc
theorem sndc : ∀ o : Option ME, SndC N o
  | none => fun X sc e ok hu hc => by
    simp only [chkC] at hc
    split at hc
    · exact pts_nil
    · cases hc
  | some m => fun X sc e ok hu hc => by
    simp only [chkC] at hc
    split at hc
    · exact pts_one (snd m X sc E0 _ ok hu hc).pt
    · cases hc
end
end
end Mini

end
section
set_option linter.all false
set_option autoImplicit false
set_option maxRecDepth 100000
set_option maxHeartbeats 1000000
/-! Snd11: names that own what they hold. -/
namespace Mini
open PySem PySem.Spec L2
open PyProof.Rows hiding St
variable [KFrag]

/-- a that may change, new since Hs -/
structure Owned (L : Loc) (F H Hs : Hp) (a : Addr) (d : D) : Prop where
  f : F a = none
  nf : ¬ Loc.foot L a
  new : Hs a = none
  at_ : OwnAt L F H a d
theorem Owned.ext {L L' : Loc} {F F' H H' Hs : Hp} {a : Addr} {d : D} (h : Owned L F H Hs a d) (e : Ext L F H L' F' H') : Owned L' F' H' Hs a d := by
  refine ⟨?_, fun z => ?_, h.new, h.at_.ext e h.nf⟩
  · cases q : F' a with
    | none => rfl
    | some o =>
      rcases e.fresh a h.f (by rw [q]; simp) with z | ⟨xs, z⟩
      · exact absurd z h.at_.there
      · exact absurd z ((h.at_.ext e h.nf).notup xs)
  · rcases e.foot a z with z | z
    · exact h.nf z
    · exact h.at_.there z
section
variable {Γ Γ' : Env} {s : S} {L L0 : Loc} {F F0 H0 H : Hp} {σ : L2.St}
theorem put_self {Γ : Env} {i : Nat} {x y : Slot} (h : (Env.put Γ i x)[i]? = some (some y)) : y = x ∧ i < Γ.length := by
  unfold Env.put at h
  have hi : i < Γ.length := by
    have := (List.getElem?_eq_some_iff.mp h).1
    rwa [List.length_set] at this
  rw [List.getElem?_set_self hi] at h
  cases h
  exact ⟨rfl, hi⟩
theorem put_ne {Γ : Env} {i j : Nat} {x : Slot} (h : i ≠ j) : (Env.put Γ i x)[j]? = Γ[j]? := by
  unfold Env.put
  rw [List.getElem?_set_ne h]
/-- a name is given what it owns from now on -/
theorem Rel.setOwn (R : Rel Γ s L F L0 F0 H0 σ H) {i : Nat} {d : D} {a : Addr} (h : Owned L F H H0 a d) (hn : ∀ (j : Nat) d', Γ[j]? = some (some (.own d')) → σ[j]? ≠ some (some (.ref a))) :
    Rel (Env.put Γ i (.own d)) s L F L0 F0 H0 (σ.set i (some (.ref a))) H := by
  refine ⟨R.w, R.e, by unfold Env.put; rw [List.length_set, List.length_set, R.len], fun j x hj => ?_, fun j k d1 d2 hj hk hjk => ?_⟩
  · by_cases e : i = j
    · subst e
      obtain ⟨rfl, hi⟩ := put_self hj
      exact ⟨a, List.getElem?_set_self (by rw [← R.len]; exact hi), h.f, h.nf, h.new, h.at_⟩
    · rw [put_ne e] at hj
      have := R.sl j x hj
      cases x with
      | dat d' =>
        obtain ⟨v', h1, h2⟩ := this
        exact ⟨v', by rw [List.getElem?_set_ne e]; exact h1, h2⟩
      | own d' =>
        obtain ⟨b, h1, h2⟩ := this
        exact ⟨b, by rw [List.getElem?_set_ne e]; exact h1, h2⟩
  · by_cases e1 : i = j
    · subst e1
      obtain ⟨_, hi⟩ := put_self hj
      rw [put_ne hjk] at hk
      rw [List.getElem?_set_self (by rw [← R.len]; exact hi), List.getElem?_set_ne hjk]
      exact fun z => hn k d2 hk z.symm
    · by_cases e2 : i = k
      · subst e2
        obtain ⟨_, hi⟩ := put_self hk
        rw [put_ne e1] at hj
        rw [List.getElem?_set_self (by rw [← R.len]; exact hi), List.getElem?_set_ne e1]
        exact hn j d1 hj
      · rw [put_ne e1] at hj
        rw [put_ne e2] at hk
        rw [List.getElem?_set_ne e1, List.getElem?_set_ne e2]
        exact R.ap j k d1 d2 hj hk hjk
/-- what a name owns has changed -/
theorem Rel.mutate (R : Rel Γ s L F L0 F0 H0 σ H) {i : Nat} {d d' : D} {a : Addr} {o : HO} (hi : Γ[i]? = some (some (.own d))) (ha : σ[i]? = some (some (.ref a))) (hnew : OwnAt L F (upd H a o) a d') :
    Rel (Env.put Γ i (.own d')) s L F L0 F0 H0 σ (upd H a o) := by
  obtain ⟨a', h1, h2, h3, h4, h5⟩ := R.sl i _ hi
  rw [ha] at h1
  cases h1
  refine ⟨R.w.setOwn h2 h3, R.e.setOwn h2 h4, by unfold Env.put; rw [List.length_set, R.len], fun j x hj => ?_, fun j k d1 d2 hj hk hjk => ?_⟩
  · by_cases e : i = j
    · subst e
      obtain ⟨rfl, _⟩ := put_self hj
      exact ⟨a, ha, h2, h3, h4, hnew⟩
    · rw [put_ne e] at hj
      have := R.sl j x hj
      cases x with
      | dat d1 => exact this
      | own d1 =>
        obtain ⟨b, g1, g2, g3, g4, g5⟩ := this
        have hb : b ≠ a := fun z => by
          subst z
          exact R.ap i j d d1 hi hj e (ha.trans g1.symm)
        refine ⟨b, g1, g2, g3, g4, ?_⟩
        cases d1 with
        | lst ds =>
          obtain ⟨vs, q1, q2⟩ := g5
          exact ⟨vs, by rw [upd_ne hb]; exact q1, q2⟩
        | dic ks =>
          show upd H a o b = _
          rw [upd_ne hb]; exact g5
        | _ => exact g5.elim
  · have l1 : ∃ d1', Γ[j]? = some (some (.own d1')) := by
      by_cases e : i = j
      · subst e; exact ⟨d, hi⟩
      · rw [put_ne e] at hj; exact ⟨d1, hj⟩
    have l2 : ∃ d2', Γ[k]? = some (some (.own d2')) := by
      by_cases e : i = k
      · subst e; exact ⟨d, hi⟩
      · rw [put_ne e] at hk; exact ⟨d2, hk⟩
    obtain ⟨d1', g1⟩ := l1
    obtain ⟨d2', g2⟩ := l2
    exact R.ap j k d1' d2' g1 g2 hjk
/-- what a name owns does not change any more: F is told of it (the object may be another way of seeing the same) -/
theorem Rel.frz (R : Rel Γ s L F L0 F0 H0 σ H) {i : Nat} {d : D} {a : Addr} {o : HO} (hi : Γ[i]? = some (some (.own d))) (ha : σ[i]? = some (some (.ref a))) (hnew : DV L (upd F a o) d (.ref a)) :
    Rel (Env.put Γ i (.dat d)) s L (upd F a o) L0 F0 H0 σ (upd H a o) := by
  obtain ⟨a', h1, h2, h3, h4, h5⟩ := R.sl i _ hi
  rw [ha] at h1
  cases h1
  have hF : ∀ b x, F b = some x → upd F a o b = some x := fun b x h => by rw [upd_ne (ne_of_none h h2)]; exact h
  refine ⟨(R.w.setOwn h2 h3).tellOwn upd_same h2 h3, (R.e.setOwn h2 h4).tellOwn h2 h4, by unfold Env.put; rw [List.length_set, R.len], fun j x hj => ?_, fun j k d1 d2 hj hk hjk => ?_⟩
  · by_cases e : i = j
    · subst e
      obtain ⟨rfl, _⟩ := put_self hj
      exact ⟨_, ha, hnew⟩
    · rw [put_ne e] at hj
      have := R.sl j x hj
      cases x with
      | dat d1 =>
        obtain ⟨v, g1, g2⟩ := this
        exact ⟨v, g1, DV.ext hF (fun _ _ r h => ⟨r, h⟩) _ _ g2⟩
      | own d1 =>
        obtain ⟨b, g1, g2, g3, g4, g5⟩ := this
        have hb : b ≠ a := fun z => by
          subst z
          exact R.ap i j d d1 hi hj e (ha.trans g1.symm)
        refine ⟨b, g1, by rw [upd_ne hb]; exact g2, g3, g4, ?_⟩
        cases d1 with
        | lst ds =>
          obtain ⟨vs, q1, q2⟩ := g5
          exact ⟨vs, by rw [upd_ne hb]; exact q1, DVs.ext hF (fun _ _ r h => ⟨r, h⟩) _ _ q2⟩
        | dic ks =>
          show upd H a o b = _
          rw [upd_ne hb]; exact g5
        | _ => exact g5.elim
  · have e1 : i ≠ j := fun e => by
      subst e
      obtain ⟨z, _⟩ := put_self hj
      cases z
    have e2 : i ≠ k := fun e => by
      subst e
      obtain ⟨z, _⟩ := put_self hk
      cases z
    rw [put_ne e1] at hj
    rw [put_ne e2] at hk
    exact R.ap j k d1 d2 hj hk hjk
end

/-! ### several values, some owned -/
def ownsOf : List Bool → List V → List V
  | true :: bs, v :: vs => v :: ownsOf bs vs
  | false :: bs, _ :: vs => ownsOf bs vs
  | _, _ => []
def PVs (L : Loc) (F H Hs : Hp) : List Bool → List D → List V → Prop
  | b :: bs, d :: ds, vs => ∃ v r, vs = v :: r ∧ (if b = true then ∃ a, v = .ref a ∧ Owned L F H Hs a d ∧ v ∉ ownsOf bs r else DV L F d v) ∧ PVs L F H Hs bs ds r
  | [], [], vs => vs = []
  | _, _, _ => False
theorem PVs.ext {L L' : Loc} {F F' H H' Hs : Hp} (e : Ext L F H L' F' H') : ∀ {bs : List Bool} {ds : List D} {vs : List V}, PVs L F H Hs bs ds vs → PVs L' F' H' Hs bs ds vs
  | [], [], vs, h => h
  | b :: bs, d :: ds, vs, h => by
    obtain ⟨v, r, rfl, h1, h2⟩ := h
    refine ⟨v, r, rfl, ?_, PVs.ext e h2⟩
    by_cases hb : b = true
    · rw [if_pos hb] at h1 ⊢
      obtain ⟨a, e1, e2, e3⟩ := h1
      exact ⟨a, e1, e2.ext e, e3⟩
    · rw [if_neg hb] at h1 ⊢
      exact e.dv h1
  | [], _ :: _, vs, h => h.elim
  | _ :: _, [], vs, h => h.elim
theorem PVs.mono {L : Loc} {F H Hs Hs' : Hp} (hh : ∀ a, Hs a = none → Hs' a = none) : ∀ {bs : List Bool} {ds : List D} {vs : List V}, PVs L F H Hs bs ds vs → PVs L F H Hs' bs ds vs
  | [], [], vs, h => h
  | b :: bs, d :: ds, vs, h => by
    obtain ⟨v, r, rfl, h1, h2⟩ := h
    refine ⟨v, r, rfl, ?_, PVs.mono hh h2⟩
    by_cases hb : b = true
    · rw [if_pos hb] at h1 ⊢
      obtain ⟨a, e1, e2, e3⟩ := h1
      exact ⟨a, e1, ⟨e2.f, e2.nf, hh a e2.new, e2.at_⟩, e3⟩
    · rw [if_neg hb] at h1 ⊢
      exact h1
  | [], _ :: _, vs, h => h.elim
  | _ :: _, [], vs, h => h.elim
theorem PVs.own_new {L : Loc} {F H Hs : Hp} : ∀ {bs : List Bool} {ds : List D} {vs : List V} {u : V}, PVs L F H Hs bs ds vs → u ∈ ownsOf bs vs → ∃ a, u = .ref a ∧ Hs a = none
  | [], [], vs, u, h, hu => by simp [ownsOf] at hu
  | b :: bs, d :: ds, vs, u, h, hu => by
    obtain ⟨v, r, rfl, h1, h2⟩ := h
    cases b with
    | true =>
      rw [if_pos rfl] at h1
      obtain ⟨a, e1, e2, e3⟩ := h1
      rcases List.mem_cons.mp hu with z | z
      · exact ⟨a, z.trans e1, e2.new⟩
      · exact PVs.own_new h2 z
    | false => exact PVs.own_new h2 hu
  | [], _ :: _, vs, u, h, _ => h.elim
  | _ :: _, [], vs, u, h, _ => h.elim
/-- they are stored, one after another -/
def setAll : List Nat → List V → L2.St → L2.St
  | i :: is, v :: vs, σ => setAll is vs (σ.set i (some v))
  | _, _, σ => σ
theorem putAll_rel {s : S} {L L0 : Loc} {F F0 H0 H : Hp} : ∀ {ts : List (Nat × Bool)} {ds : List D} {vs : List V} {Γ Γ' : Env} {σ : L2.St}, Rel Γ s L F L0 F0 H0 σ H → PVs L F H H0 (ts.map (·.2)) ds vs →
    (∀ (j : Nat) d', Γ[j]? = some (some (.own d')) → ∀ u, u ∈ ownsOf (ts.map (·.2)) vs → σ[j]? ≠ some (some u)) → putAll ts ds Γ = some Γ' → Rel Γ' s L F L0 F0 H0 (setAll (ts.map (·.1)) vs σ) H
  | [], [], vs, Γ, Γ', σ, R, hp, hn, e => by
    simp only [putAll, Option.some.injEq] at e
    subst e
    exact R
  | (i, b) :: ts, d :: ds, vs, Γ, Γ', σ, R, hp, hn, e => by
    obtain ⟨v, r, rfl, h1, h2⟩ := hp
    simp only [putAll] at e
    cases b with
    | true =>
      rw [if_pos rfl] at h1 e
      obtain ⟨a, rfl, h3, h4⟩ := h1
      show Rel Γ' s L F L0 F0 H0 (setAll (ts.map (·.1)) r (σ.set i (some (.ref a)))) H
      refine putAll_rel (ts := ts) (ds := ds) (vs := r) (R.setOwn h3 fun j d' hj => hn j d' hj _ List.mem_cons_self) h2 (fun j d' hj u hu => ?_) e
      by_cases ej : i = j
      · subst ej
        obtain ⟨_, hi⟩ := put_self hj
        rw [List.getElem?_set_self (by rw [← R.len]; exact hi)]
        intro z
        cases z
        exact h4 hu
      · rw [put_ne ej] at hj
        rw [List.getElem?_set_ne ej]
        exact hn j d' hj u (List.mem_cons_of_mem _ hu)
    | false =>
      have h1 : DV L F d v := by simpa using h1
      have e : putAll ts ds (Env.put Γ i (.dat d)) = some Γ' := by simpa using e
      show Rel Γ' s L F L0 F0 H0 (setAll (ts.map (·.1)) r (σ.set i (some v))) H
      refine putAll_rel (ts := ts) (ds := ds) (vs := r) (R.set h1) h2 (fun j d' hj u hu => ?_) e
      by_cases ej : i = j
      · subst ej
        obtain ⟨z, _⟩ := put_self hj
        cases z
      · rw [put_ne ej] at hj
        rw [List.getElem?_set_ne ej]
        exact hn j d' hj u hu
  | [], _ :: _, vs, Γ, Γ', σ, R, hp, hn, e => by simp [putAll] at e
  | _ :: _, [], vs, Γ, Γ', σ, R, hp, hn, e => by simp [putAll] at e
theorem Rel.old_own {Γ : Env} {s : S} {L L0 : Loc} {F F0 H0 H : Hp} {σ : L2.St} (R : Rel Γ s L F L0 F0 H0 σ H) {j : Nat} {d : D} (hj : Γ[j]? = some (some (.own d))) {a : Addr} (ha : H a = none) : σ[j]? ≠ some (some (.ref a)) := by
  obtain ⟨b, h1, h2, h3, h4, h5⟩ := R.sl j _ hj
  rw [h1]
  intro z
  cases z
  exact h5.there ha
end Mini

end
section
set_option linter.all false
set_option autoImplicit false
set_option maxRecDepth 100000
set_option maxHeartbeats 1000000
/-! Snd12: statements: readings, one by one. -/
namespace Mini
open PySem PySem.Spec L2
open PyProof.Rows hiding St
variable [KFrag]

def wpO (o : Out) (nx : Env → S → Prop) (rt : D → S → Prop) (er : Str → S → Prop) : Prop := match o with
  | .next Γ s => nx Γ s
  | .ret d s => rt d s
  | .err c s => er c s
  | .bad => False
theorem wpO_mono {o : Out} {nx nx' : Env → S → Prop} {rt rt' : D → S → Prop} {er er' : Str → S → Prop} (h : wpO o nx rt er) (h1 : ∀ Γ s, nx Γ s → nx' Γ s) (h2 : ∀ d s, rt d s → rt' d s) (h3 : ∀ c s, er c s → er' c s) : wpO o nx' rt' er' := by
  cases o with
  | next Γ s => exact h1 _ _ h
  | ret d s => exact h2 _ _ h
  | err c s => exact h3 _ _ h
  | bad => exact h
theorem wpO_opt {α : Type} {o : Option α} {f : α → Out} {nx : Env → S → Prop} {rt : D → S → Prop} {er : Str → S → Prop} : wpO (opt o f) nx rt er ↔ ∃ a, o = some a ∧ wpO (f a) nx rt er := by
  cases o with
  | none => exact ⟨fun h => h.elim, fun ⟨a, h, _⟩ => nomatch h⟩
  | some x => exact ⟨fun h => ⟨x, rfl, h⟩, fun ⟨a, h, k⟩ => by cases h; exact k⟩
theorem wpO_then {o : Out} {f : Env → S → Out} {nx : Env → S → Prop} {rt : D → S → Prop} {er : Str → S → Prop} : wpO (o.andThen f) nx rt er ↔ wpO o (fun Γ s => wpO (f Γ s) nx rt er) rt er := by
  cases o <;> exact Iff.rfl
theorem wpO_out {α : Type} {r : Res α} {f : α → S → Out} {nx : Env → S → Prop} {rt : D → S → Prop} {er : Str → S → Prop} : wpO (r.out f) nx rt er ↔ wp r (fun a s => wpO (f a s) nx rt er) er := by
  cases r <;> exact Iff.rfl

abbrev nxK (D : Ends) (L : Loc) (F : Hp) (L0 : Loc) (F0 H0 : Hp) : Env → S → Prop := fun Γ' s' => ∀ σ' L' F' H', Rel Γ' s' L' F' L0 F0 H0 σ' H' → Gr L F L' F' → D.nx σ' H'
abbrev rtK (D : Ends) (L0 : Loc) (F0 H0 : Hp) : Mini.D → S → Prop := fun d s' => ∀ v L' F' H', WOk L' s' F' H' → Ext L0 F0 H0 L' F' H' → DV L' F' d v → D.rt v H'
def goesTo (mg : Str → Option Value) (E : XK) (D : Ends) (L : Loc) (F : Hp) (L0 : Loc) (F0 H0 : Hp) (o : Out) : Prop := wpO o (nxK D L F L0 F0 H0) (rtK D L0 F0 H0) (Kx mg E L0 F0 H0)
/-- a statement does what f says -/
def tO (mg : Str → Option Value) (E : XK) (f : Env → S → Out) : TS := fun D σ H => ∃ Γ s L F L0 F0 H0, Rel Γ s L F L0 F0 H0 σ H ∧ goesTo mg E D L F L0 F0 H0 (f Γ s)
section
variable {mg : Str → Option Value} {E : XK} {D : Ends} {Γ : Env} {s : S} {L L1 L0 : Loc} {F F1 F0 H0 H : Hp} {σ : L2.St}
theorem goesTo.gr {o : Out} (h : goesTo mg E D L F L0 F0 H0 o) (g : Gr L F L1 F1) : goesTo mg E D L1 F1 L0 F0 H0 o :=
  wpO_mono h (fun Γ s z σ' L' F' H' R e => z σ' L' F' H' R (g.trans e)) (fun _ _ z => z) fun _ _ z => z
/-- an expression of a statement runs first -/
theorem out_wp {α : Type} {m : M α} {G : α → S → Out} (R : Rel Γ s L F L0 F0 H0 σ H) (h : goesTo mg E D L F L0 F0 H0 ((m s).out G)) :
    wp (m s) (fun a s' => goesTo mg E D L F L0 F0 H0 (G a s')) (Kx mg E L F H) := by
  unfold goesTo at h
  rw [wpO_out] at h
  exact wp_mono h (fun _ _ z => z) fun _ _ z => z.ext R.e
theorem out_then {α β : Type} {r : Loc → Hp → α → β → Prop} {m : M α} {G : α → S → Out} {P : β → Hp → Prop} (R : Rel Γ s L F L0 F0 H0 σ H) (h : goesTo mg E D L F L0 F0 H0 ((m s).out G))
    (k : ∀ a b s1 L1 F1 H1, Rel Γ s1 L1 F1 L0 F0 H0 σ H1 → Ext L F H L1 F1 H1 → r L1 F1 a b → goesTo mg E D L1 F1 L0 F0 H0 (G a s1) → P b H1) :
    wp (m s) (okAt r P L F H) (Kx mg E L F H) :=
  wp_mono (out_wp R h) (fun a s1 h1 b L1 F1 H1 w1 e1 r1 => k a b s1 L1 F1 H1 (R.ext w1 e1) e1 r1 (h1.gr e1.gr)) fun _ _ z => z
theorem goesTo.next {Γ' : Env} {s' : S} {L' : Loc} {F' H' : Hp} {σ' : L2.St} (h : goesTo mg E D L F L0 F0 H0 (.next Γ' s')) (R : Rel Γ' s' L' F' L0 F0 H0 σ' H') (g : Gr L F L' F') : D.nx σ' H' := h σ' L' F' H' R g
theorem goesTo.opt {α : Type} {o : Option α} {f : α → Out} (h : goesTo mg E D L F L0 F0 H0 (opt o f)) : ∃ a, o = some a ∧ goesTo mg E D L F L0 F0 H0 (f a) := wpO_opt.mp h
end
section
variable {X : Cx} {E : XK} {st : Stmt} {sts : List Stmt}
/-- one after the other -/
theorem sq_cons {c : MS} {cs : List MS} (h1 : PS X st (tO X.mg E (exec c))) (h2 : PSs X sts (tO X.mg E (execs cs))) : PSs X (st :: sts) (tO X.mg E (execs (c :: cs))) := by
  refine PSs.imp (pss_cons h1 h2) fun D σ H ⟨Γ, s, L, F, L0, F0, H0, R, h⟩ => ?_
  refine ⟨Γ, s, L, F, L0, F0, H0, R, ?_⟩
  unfold goesTo at h
  simp only [execs] at h
  rw [wpO_then] at h
  exact wpO_mono h (fun Γ' s' h' σ' L' F' H' R' g => ⟨Γ', s', L', F', L0, F0, H0, R', goesTo.gr h' g⟩) (fun _ _ z => z) fun _ _ z => z
theorem sq_nil : PSs X [] (tO X.mg E (execs [])) := by
  refine PSs.imp pss_nil fun D σ H ⟨Γ, s, L, F, L0, F0, H0, R, h⟩ => ?_
  exact h σ L F H R (Gr.refl ..)
theorem out_test {m : ME} {Γ : Env} {s : S} {G : Bool → S → Out} : ((eval m Γ s).out fun x s => opt x.truthy fun k => G k s) = (evalT m Γ s).out G := by
  unfold evalT M.bind
  cases eval m Γ s with
  | ok d s' => show opt d.truthy _ = (M.opt d.truthy s').out G; cases d.truthy <;> rfl
  | err c s' => rfl
  | bad => rfl
theorem out_items {m : ME} {Γ : Env} {s : S} {G : List Mini.D → S → Out} : ((eval m Γ s).out fun x s => opt x.items fun k => G k s) = (itemsM m Γ s).out G := by
  unfold itemsM M.bind
  cases eval m Γ s with
  | ok d s' => show opt d.items _ = (M.opt d.items s').out G; cases d.items <;> rfl
  | err c s' => rfl
  | bad => rfl
variable {c : ME} {e : Expr} {as bs : List MS} {pa pb : List Stmt} {pos : Pos}
theorem sq_ite (hc : PT X e (tTv X.mg E c)) (ha : PSs X pa (tO X.mg E (execs as))) (hb : PSs X pb (tO X.mg E (execs bs))) : PS X (.If e pa pb pos) (tO X.mg E (exec (.ite c as bs))) := by
  refine PS.imp (ps_if hc ha hb) fun D σ H ⟨Γ, s, L, F, L0, F0, H0, R, h⟩ => ?_
  simp only [exec] at h
  rw [out_test (G := fun k s => if k = true then execs as Γ s else execs bs Γ s)] at h
  refine ⟨Γ, s, L, F, L0, F0, H0, R, out_then R h fun b b' s1 L1 F1 H1 R1 e1 r1 h1 => ?_⟩
  obtain rfl : b = b' := r1
  cases b with
  | true => exact ⟨Γ, s1, L1, F1, L0, F0, H0, R1, h1⟩
  | false => exact ⟨Γ, s1, L1, F1, L0, F0, H0, R1, h1⟩
theorem sq_whl {n : Nat} (hp : PassesOwn (model X.prog X.w) X.A X.env X.xe) (hc : PT X e (tTv X.mg E c)) (ha : PSs X pa (tO X.mg E (execs as))) : PS X (.While e pa [] pos) (tO X.mg E (exec (.whl n c as))) := by
  refine PS.imp (ps_while hp hc ha) fun D σ H ⟨Γ, s, L, F, L0, F0, H0, R, h⟩ => ?_
  simp only [exec] at h
  refine ⟨fun m σ H => ∃ Γ s L F, Rel Γ s L F L0 F0 H0 σ H ∧ goesTo X.mg E D L F L0 F0 H0 (whlGo (fun Γ s => evalT c Γ s) (fun Γ s => execs as Γ s) m Γ s), ⟨n, Γ, s, L, F, R, h⟩, ?_⟩
  rintro m σ H ⟨Γ, s, L, F, R, h⟩
  cases m with
  | zero => exact h.elim
  | succ m =>
    simp only [whlGo] at h
    refine ⟨Γ, s, L, F, L0, F0, H0, R, out_then R h fun b b' s1 L1 F1 H1 R1 e1 r1 h1 => ?_⟩
    obtain rfl : b = b' := r1
    cases b with
    | true =>
      rw [if_pos rfl] at h1 ⊢
      unfold goesTo at h1
      rw [wpO_then] at h1
      refine ⟨_, fun σ' H' z => ⟨m, Nat.lt_succ_self m, z⟩, Γ, s1, L1, F1, L0, F0, H0, R1, ?_⟩
      exact wpO_mono h1 (fun Γ' s' h' σ' L' F' H' R' g => ⟨Γ', s', L', F', R', goesTo.gr h' g⟩) (fun _ _ z => z) fun _ _ z => z
    | false =>
      rw [if_neg Bool.false_ne_true] at h1 ⊢
      exact goesTo.next h1 R1 (Gr.refl ..)
theorem sq_for {tg : Tg} {src : ME} {t it : Expr} (hp : PassesOwn (model X.prog X.w) X.A X.env X.xe) (hc : X.calm = true) (hi : PI X t it (tI X.mg E src)) (hg : PG X t (rTg X.K tg)) (hb : PSs X pa (tO X.mg E (execs as))) (hs : notSet it = true) :
    PS X (.For t it pa [] pos) (tO X.mg E (exec (.forS tg src as))) := by
  refine PS.imp (ps_for hp hc hi hg hb (noFold hs)) fun D σ H ⟨Γ, s, L, F, L0, F0, H0, R, h⟩ => ?_
  simp only [exec] at h
  rw [out_items (G := fun xs s => forGo (fun x Γ s => opt (bindT tg x Γ) fun Γ => execs as Γ s) xs Γ s)] at h
  refine ⟨Γ, s, L, F, L0, F0, H0, R, wp_mono (out_wp R h) (fun xs s1 h1 J L1 F1 H1 w1 e1 it => ?_) fun _ _ z => z⟩
  have R1 := R.ext w1 e1
  replace h1 := h1.gr e1.gr
  generalize hf : (fun x Γ s => opt (bindT tg x Γ) fun Γ => execs as Γ s) = f at h1
  obtain ⟨G, Y, wk, hG, hY⟩ := it
  refine for_it wk (fun i σ2 H2 => ∃ Γ2 s2 L2 F2, Rel Γ2 s2 L2 F2 L0 F0 H0 σ2 H2 ∧ Gr L1 F1 L2 F2 ∧ goesTo X.mg E D L2 F2 L0 F0 H0 (forGo f (xs.drop i) Γ2 s2)) ⟨Γ, s1, L1, F1, R1, Gr.refl .., by rw [List.drop_zero]; exact h1⟩
    (fun i σ2 H2 _ ⟨Γ2, s2, L2, F2, R2, g2, _⟩ => hG L2 s2 F2 H2 R2.w g2) ?_ ?_
  · intro i x σ2 H2 H3 hi ⟨Γ2, s2, L2, F2, R2, g2, h2⟩ hy
    obtain ⟨d, hd⟩ : ∃ d, xs[i]? = some d := ⟨xs[i], List.getElem?_eq_getElem hi⟩
    obtain ⟨F3, w3, e3, dv3⟩ := hY i d L2 s2 F2 H2 x H3 hd R2.w g2 hy
    have hdr : xs.drop i = d :: xs.drop (i + 1) := by
      rw [List.drop_eq_getElem_cons hi]
      congr 1
      exact (List.getElem?_eq_some_iff.mp hd).2
    rw [hdr] at h2
    simp only [forGo] at h2
    unfold goesTo at h2
    rw [wpO_then, ← hf] at h2
    obtain ⟨Γ', hb', h2⟩ := wpO_opt.mp h2
    refine bind_tg tg (R2.ext w3 e3) dv3 hb' fun σ' R' _ => ⟨Γ', s2, L2, F3, L0, F0, H0, R', ?_⟩
    refine wpO_mono h2 (fun Γ'' s' h' σ'' L' F' H' R'' g => ⟨Γ'', s', L', F', R'', (g2.trans e3.gr).trans g, ?_⟩) (fun _ _ z => z) fun _ _ z => z
    rw [hf] at h'
    exact goesTo.gr h' (e3.gr.trans g)
  · rintro σ2 H2 ⟨Γ2, s2, L2, F2, R2, g2, h2⟩
    rw [List.drop_length] at h2
    exact goesTo.next h2 R2 (Gr.refl ..)
theorem sq_ret {m : ME} (h : PE X e (tEv X.mg E m)) : PS X (.Return (some e) pos) (tO X.mg E (exec (.ret m))) := by
  refine PS.imp (ps_ret h) fun D σ H ⟨Γ, s, L, F, L0, F0, H0, R, q⟩ => ?_
  simp only [exec] at q
  exact ⟨Γ, s, L, F, L0, F0, H0, R, out_then R q fun d v s1 L1 F1 H1 R1 e1 r1 h1 => h1 v L1 F1 H1 R1.w R1.e r1⟩
theorem sq_expr {m : ME} (h : PE X e (tEv X.mg E m)) (hs : swapsWith e none pos.line X.env = pure false) : PS X (.Expr e pos) (tO X.mg E (exec (.expr m))) := by
  refine PS.imp (ps_expr h hs) fun D σ H ⟨Γ, s, L, F, L0, F0, H0, R, q⟩ => ?_
  simp only [exec] at q
  exact ⟨Γ, s, L, F, L0, F0, H0, R, out_then R q fun d v s1 L1 F1 H1 R1 e1 r1 h1 => goesTo.next h1 R1 (Gr.refl ..)⟩
/-- a value, then its place -/
theorem sq_set {i : Nat} {m : ME} {te : TE} (he : ∀ σ H Q, tEv X.mg E m σ H Q → te σ H Q) (h : PS X st (tAsg te (gName i))) : PS X st (tO X.mg E (exec (.set i m))) := by
  refine PS.imp h fun D σ H ⟨Γ, s, L, F, L0, F0, H0, R, q⟩ => ?_
  simp only [exec] at q
  exact he _ _ _ ⟨Γ, s, L, F, L0, F0, H0, R, out_then R q fun d v s1 L1 F1 H1 R1 e1 r1 h1 => goesTo.next h1 (R1.set r1) (Gr.refl ..)⟩
theorem sq_unp {t : Tg} {m : ME} (h : PS X st (tAsg (tEv X.mg E m) (rTg X.K t))) : PS X st (tO X.mg E (exec (.unp t m))) := by
  refine PS.imp h fun D σ H ⟨Γ, s, L, F, L0, F0, H0, R, q⟩ => ?_
  simp only [exec] at q
  refine ⟨Γ, s, L, F, L0, F0, H0, R, out_then R q fun d v s1 L1 F1 H1 R1 e1 r1 h1 => ?_⟩
  obtain ⟨Γ', eb, h2⟩ := h1.opt
  exact bind_tg t R1 r1 eb fun σ' R' _ => goesTo.next h2 R' (Gr.refl ..)
theorem aug_ok : ∀ (o : Bop), PIp X (opOf o) (fun x y H Q => ∃ i j z, x = .int i ∧ y = .int j ∧ augD o (.int i) (.int j) = some (.int z) ∧ (o = .add ∨ o = .mul ∨ o = .bxor) ∧ Q (.int z) H) := by
  intro o pins s σ H x y v u Q I rx ry ⟨i, j, z, e1, e2, e3, e4, q⟩
  subst e1 e2
  rcases e4 with rfl | rfl | rfl
  · simp only [augD, bop, Option.some.injEq, D.int.injEq] at e3
    subst e3
    exact iop_add pins s σ H _ _ v u Q I rx ry ⟨i, j, rfl, rfl, q⟩
  · simp only [augD, bop] at e3
    split at e3
    · simp only [Option.some.injEq, D.int.injEq] at e3
      subst e3
      rename_i hb
      exact iop_mul pins s σ H _ _ v u Q I rx ry ⟨i, j, rfl, rfl, .inl (by omega), q⟩
    · cases e3
  · simp only [augD, bop] at e3
    split at e3
    · simp only [Option.some.injEq, D.int.injEq] at e3
      rename_i hb
      refine iop_xor pins s σ H _ _ v u Q I rx ry ⟨i, j, rfl, rfl, ?_⟩
      show Q (V.int (Builtin.bitXor i j)) H
      rw [Bits.bitXor_pp hb.1 hb.2, e3]
      exact q
    · cases e3
theorem augD_int {o : Bop} {x y z : Mini.D} (h : augD o x y = some z) (ho : o = .add ∨ o = .mul ∨ o = .bxor) : ∃ i j k, x = .int i ∧ y = .int j ∧ z = .int k := by
  cases x <;> cases y <;> simp only [augD, reduceCtorEq] at h
  rename_i i j
  refine ⟨i, j, ?_⟩
  rcases ho with rfl | rfl | rfl <;> simp only [bop] at h
  · cases h; exact ⟨_, rfl, rfl, rfl⟩
  · split at h
    · cases h; exact ⟨_, rfl, rfl, rfl⟩
    · cases h
  · split at h
    · cases h; exact ⟨_, rfl, rfl, rfl⟩
    · cases h
theorem sq_aug {i : Nat} {o : Bop} {m : ME} {ti : TIp} (ho : o = .add ∨ o = .mul ∨ o = .bxor) (h : PS X st (tAug i (tEv X.mg E m) (fun x y H Q => ∃ i j z, x = .int i ∧ y = .int j ∧ augD o (.int i) (.int j) = some (.int z) ∧ (o = .add ∨ o = .mul ∨ o = .bxor) ∧ Q (.int z) H))) : PS X st (tO X.mg E (exec (.aug i o m))) := by
  refine PS.imp h fun D σ H ⟨Γ, s, L, F, L0, F0, H0, R, q⟩ => ?_
  simp only [exec] at q
  obtain ⟨x, ex, q⟩ := q.opt
  unfold Env.get at ex
  split at ex
  · rename_i d' hg
    cases ex
    obtain ⟨v, hv, dv⟩ := R.sl i _ hg
    refine ⟨v, hv, Γ, s, L, F, L0, F0, H0, R, out_then R q fun d w s1 L1 F1 H1 R1 e1 r1 h1 => ?_⟩
    obtain ⟨z, ez, h2⟩ := h1.opt
    obtain ⟨a, b, k, rfl, rfl, rfl⟩ := augD_int ez ho
    exact ⟨a, b, k, dv, r1, ez, ho, goesTo.next h2 (R1.set (d := .int k) rfl) (Gr.refl ..)⟩
  · cases ex
theorem own_of {Γ : Env} {i : Nat} {d : Mini.D} (h : Env.getOwn Γ i = some d) : Γ[i]? = some (some (.own d)) := by
  unfold Env.getOwn at h
  split at h
  · cases h; assumption
  · cases h
/-- name.append(e) -/
theorem sq_app {i : Nat} {m : ME} (h : PS X st (tDrop (tBM X.K "list" rAppend (tVar i) (tCons (tEv X.mg E m) tNil)))) : PS X st (tO X.mg E (exec (.app i m))) := by
  refine PS.imp h fun D σ H ⟨Γ, s, L, F, L0, F0, H0, R, q⟩ => ?_
  simp only [exec] at q
  obtain ⟨x, hg, q⟩ := q.opt
  have hs := own_of hg
  obtain ⟨a, h1, h2, h3, h4, h5⟩ := R.sl i _ hs
  cases x with
  | lst xs =>
    obtain ⟨vs, g1, g2⟩ := h5
    refine ⟨.ref a, h1, .inl ⟨rfl, vs, SqL.of g1⟩, Γ, s, L, F, L0, F0, H0, R, out_then R q fun d w s1 L1 F1 H1 R1 e1 r1 k1 => ?_⟩
    have k1 : goesTo X.mg E D L1 F1 L0 F0 H0 (if xs.length < lim then .next (Env.put Γ i (.own (.lst (xs ++ [d])))) s1 else .bad) := k1
    split at k1
    · rename_i hl
      have g1' : H1 a = some (.lst vs) := e1.old a _ g1 h3
      refine ⟨a, vs, w, rfl, rfl, g1', ?_, ?_⟩
      · have : lim < sizeLine := by rw [sizeLine_eq]; decide
        rw [← g2.len]; omega
      · refine goesTo.next k1 (R1.mutate hs h1 ⟨vs ++ [w], upd_same, (e1.dvs g2).append ⟨w, [], rfl, r1, rfl⟩⟩) (Gr.refl ..)
    · exact k1.elim
  | _ => exact (show False from q).elim
/-- name.extend(e), e a list -/
theorem sq_ext {i : Nat} {m : ME} (h : PS X st (tDrop (tBM X.K "list" rExtend (tVar i) (tCons (tEv X.mg E m) tNil)))) : PS X st (tO X.mg E (exec (.ext i m))) := by
  refine PS.imp h fun D σ H ⟨Γ, s, L, F, L0, F0, H0, R, q⟩ => ?_
  simp only [exec] at q
  obtain ⟨x, hg, q⟩ := q.opt
  have hs := own_of hg
  obtain ⟨a, h1, h2, h3, h4, h5⟩ := R.sl i _ hs
  cases x with
  | lst xs =>
    obtain ⟨vs, g1, g2⟩ := h5
    refine ⟨.ref a, h1, .inl ⟨rfl, vs, SqL.of g1⟩, Γ, s, L, F, L0, F0, H0, R, out_then R q fun d w s1 L1 F1 H1 R1 e1 r1 k1 => ?_⟩
    cases d with
    | lst ys =>
      have k1 : goesTo X.mg E D L1 F1 L0 F0 H0 (if xs.length + ys.length ≤ lim then .next (Env.put Γ i (.own (.lst (xs ++ ys)))) s1 else .bad) := k1
      split at k1
      · rename_i hl
        obtain ⟨b, us, rfl, p1, p2⟩ := r1
        have g1' : H1 a = some (.lst vs) := e1.old a _ g1 h3
        refine ⟨a, b, vs, us, rfl, rfl, g1', R1.w.sub _ _ p1, ?_, ?_⟩
        · rw [← g2.len, ← p2.len]; exact Nat.le_trans hl lim_le
        · refine goesTo.next k1 (R1.mutate hs h1 ⟨vs ++ us, upd_same, (e1.dvs g2).append p2⟩) (Gr.refl ..)
      · exact k1.elim
    | _ => exact k1.elim
  | _ => exact (show False from q).elim
/-- name = [..], its own -/
theorem sq_setOwn {i : Nat} {as : List ME} (hz : as.length ≤ 1000) (h : PS X st (tAsg (tLst (tEvs X.mg E as)) (gName i))) : PS X st (tO X.mg E (exec (.setOwn i (.lst as)))) := by
  refine PS.imp h fun D σ H ⟨Γ, s, L, F, L0, F0, H0, R, q⟩ => ?_
  simp only [exec, eval] at q
  unfold goesTo at q
  rw [wpO_out, wp_bind] at q
  refine ⟨Γ, s, L, F, L0, F0, H0, R, wp_mono (wp_len q) (fun xs s1 h1 vs L1 F1 H1 w1 e1 r1 => ⟨?_, fun p hp => ?_⟩) fun _ _ z => z.ext R.e⟩
  · have r1 : DVs L1 F1 xs vs := r1
    rw [← r1.len, h1.1]; exact small_line hz
  · have R1 := R.ext w1 e1
    obtain ⟨w2, e2⟩ := w1.pushOwn (o := .lst vs) hp
    have hF1 : F1 p = none := by
      cases q : F1 p with
      | none => rfl
      | some x => have := w1.sub p x q; rw [hp] at this; cases this
    have hH0 : H0 p = none := by
      cases q : H0 p with
      | none => rfl
      | some x => exact absurd hp (R1.e.there p (by rw [q]; simp))
    have O : Owned L1 F1 (upd H1 p (.lst vs)) H0 p (.lst xs) := ⟨hF1, fun z => (w1.nof p z).2 hp, hH0, vs, upd_same, r1⟩
    exact h1.2 _ L1 F1 _ ((R1.ext w2 e2).setOwn O fun j d' hj => R1.old_own hj hp) e1.gr
/-- raise -/
theorem sq_raise {cn : Str} {e : Expr} {W : WX} {C : Addr} (hc : X.calm = true) (tk : Takes X (fun cls d _ H => E cls d H)) (hm : X.mg cn = some (.ref C)) (h : PMk X e (fun _ H Q => Q (.ref C) none H)) : PS X (.Raise (some e) none pos) (tO X.mg E (exec (.raise cn))) := by
  refine PS.imp (ps_raise hc tk h) fun D σ H ⟨Γ, s, L, F, L0, F0, H0, R, q⟩ => ?_
  exact q C L F H hm R.w R.e
end
section
variable {X : Cx} {E : XK}
/-- arguments, some of them lists of their own -/
def tPV (mg : Str → Option Value) (E : XK) (bs : List Bool) (es : List ME) : TA := fun σ H Q => ∃ Γ s L F L0 F0 H0, Rel Γ s L F L0 F0 H0 σ H ∧
  wp (evals es Γ s) (fun ds s' => ∀ vs L' F' H', WOk L' s' F' H' → Ext L F H L' F' H' → PVs L' F' H' H bs ds vs → Q vs H') (Kx mg E L F H)
theorem pv_nil : PA X [] (tPV X.mg E [] []) := PA.imp pa_nil fun σ H Q ⟨Γ, s, L, F, L0, F0, H0, R, h⟩ => by
  simp only [evals] at h
  exact h [] L F H R.w (Ext.refl ..) rfl
theorem pv_dat {e : Expr} {es : List Expr} {m : ME} {ms : List ME} {bs : List Bool} (he : PE X e (tEv X.mg E m)) (hr : PA X es (tPV X.mg E bs ms)) (hp : plainE e = true) : PA X (e :: es) (tPV X.mg E (false :: bs) (m :: ms)) := by
  refine PA.imp (pa_cons he hr (star_plain hp)) fun σ H Q ⟨Γ, s, L, F, L0, F0, H0, R, h⟩ => ?_
  simp only [evals] at h
  rw [wp_bind] at h
  refine ⟨Γ, s, L, F, L0, F0, H0, R, wp_mono h (fun d s1 h1 v L1 F1 H1 w1 e1 r1 => ?_) fun _ _ z => z⟩
  rw [wp_bind] at h1
  refine ⟨Γ, s1, L1, F1, L0, F0, H0, R.ext w1 e1, wp_mono h1 (fun ds s2 h2 vs L2 F2 H2 w2 e2 r2 => ?_) fun _ _ z => z.ext e1⟩
  refine h2 _ L2 F2 H2 w2 (e1.trans e2) ⟨v, vs, rfl, ?_, r2.mono fun a ha => ?_⟩
  · rw [if_neg Bool.false_ne_true]; exact e2.dv r1
  · cases q : H a with
    | none => rfl
    | some x => exact absurd ha (e1.there a (by rw [q]; simp))
theorem pv_own {e : Expr} {es : List Expr} {as ms : List ME} {bs : List Bool} (hz : as.length ≤ 1000) (he : PE X e (tLst (tEvs X.mg E as))) (hr : PA X es (tPV X.mg E bs ms)) (hp : plainE e = true) : PA X (e :: es) (tPV X.mg E (true :: bs) (.lst as :: ms)) := by
  refine PA.imp (pa_cons he hr (star_plain hp)) fun σ H Q ⟨Γ, s, L, F, L0, F0, H0, R, h⟩ => ?_
  simp only [evals, eval, M.assoc] at h
  rw [wp_bind] at h
  refine ⟨Γ, s, L, F, L0, F0, H0, R, wp_mono (wp_len h) (fun xs s1 h1 vs L1 F1 H1 w1 e1 r1 => ⟨?_, fun p hpn => ?_⟩) fun _ _ z => z⟩
  · have r1 : DVs L1 F1 xs vs := r1
    rw [← r1.len, h1.1]; exact small_line hz
  · obtain ⟨w2, e2⟩ := w1.pushOwn (o := .lst vs) hpn
    have hF1 : F1 p = none := by
      cases q : F1 p with
      | none => rfl
      | some x => have := w1.sub p x q; rw [hpn] at this; cases this
    have old : ∀ a, H1 a = none → H a = none := fun a ha => by
      cases q : H a with
      | none => rfl
      | some x => exact absurd ha (e1.there a (by rw [q]; simp))
    have h1' := h1.2
    have h1' : wp (M.bind (evals ms Γ) (fun ys => M.ret (.lst xs :: ys)) s1) _ _ := h1'
    rw [wp_bind] at h1'
    have O : Owned L1 F1 (upd H1 p (.lst vs)) H p (.lst xs) := ⟨hF1, fun z => (w1.nof p z).2 hpn, old p hpn, vs, upd_same, r1⟩
    refine ⟨Γ, s1, L1, F1, L0, F0, H0, R.ext w2 (e1.trans e2), wp_mono h1' (fun ds s2 h2 us L2 F2 H2 w3 e3 r2 => ?_) fun _ _ z => z.ext (e1.trans e2)⟩
    refine h2 _ L2 F2 H2 w3 ((e1.trans e2).trans e3) ⟨.ref p, us, rfl, ?_, r2.mono fun a ha => old a ?_⟩
    · rw [if_pos rfl]
      refine ⟨p, rfl, O.ext e3, fun z => ?_⟩
      obtain ⟨a, ea, hn⟩ := PVs.own_new r2 z
      cases ea
      rw [upd_same] at hn
      cases hn
    · by_cases ea : a = p
      · subst ea; exact hpn
      · rw [upd_ne ea] at ha; exact ha
theorem sq_par2 {st : Stmt} {i j : Nat} {b1 b2 : Bool} {m1 m2 : ME} (h : PS X st (tPar i j (tPV X.mg E [b1, b2] [m1, m2]))) : PS X st (tO X.mg E (exec (.par [(i, b1), (j, b2)] [m1, m2]))) := by
  refine PS.imp h fun D σ H ⟨Γ, s, L, F, L0, F0, H0, R, q⟩ => ?_
  simp only [exec] at q
  refine ⟨Γ, s, L, F, L0, F0, H0, R, wp_mono (out_wp R q) (fun ds s1 h1 vs L1 F1 H1 w1 e1 r1 => ?_) fun _ _ z => z⟩
  obtain ⟨Γ', ep, h2⟩ := h1.opt
  have R1 := R.ext w1 e1
  have key : Rel Γ' s1 L1 F1 L0 F0 H0 (setAll [i, j] vs σ) H1 := by
    refine putAll_rel (ts := [(i, b1), (j, b2)]) (ds := ds) (vs := vs) R1 (r1.mono fun a ha => ?_) (fun j' d' hj u hu => ?_) ep
    · cases q : H0 a with
      | none => rfl
      | some x => exact absurd ha (R.e.there a (by rw [q]; simp))
    · obtain ⟨a, rfl, ha⟩ := PVs.own_new r1 hu
      exact R.old_own hj ha
  have : ∃ v w, vs = [v, w] := by
    cases ds with
    | nil => exact r1.elim
    | cons d ds =>
      obtain ⟨v, r, rfl, _, h3⟩ := r1
      cases ds with
      | nil => exact h3.elim
      | cons d ds =>
        obtain ⟨w, r, rfl, _, h3⟩ := h3
        cases ds with
        | nil =>
          have h3 : r = [] := h3
          subst h3
          exact ⟨v, w, rfl⟩
        | cons => exact h3.elim
  obtain ⟨v, w, rfl⟩ := this
  exact ⟨v, w, rfl, goesTo.next h2 key e1.gr⟩
/-- a list's name, from here on not changed any more (no code) -/
theorem sq_frz {i : Nat} {sts : List Stmt} {ms : List MS} (h : PSs X sts (tO X.mg E (execs ms))) : PSs X sts (tO X.mg E (execs (.frz i :: ms))) := by
  refine ⟨fun pins st σ H D I ⟨Γ, s, L, F, L0, F0, H0, R, q⟩ => ?_⟩
  simp only [execs, exec, Out.andThen] at q
  unfold Env.frz at q
  split at q
  · rename_i d hd
    obtain ⟨a, h1, h2, h3, h4, h5⟩ := R.sl i _ hd
    cases d with
    | lst ds =>
      obtain ⟨vs, g1, g2⟩ := h5
      have hF : ∀ b x, F b = some x → upd F a (.lst vs) b = some x := fun b x h => by rw [upd_ne (ne_of_none h h2)]; exact h
      have RR := R.frz (o := .lst vs) hd h1 ⟨a, vs, rfl, upd_same, DVs.ext hF (fun _ _ r h => ⟨r, h⟩) _ _ g2⟩
      have eH : upd H a (.lst vs) = H := by
        funext b
        by_cases e : b = a
        · subst e; rw [upd_same, g1]
        · rw [upd_ne e]
      rw [eH] at RR
      exact h.run pins st σ H D I ⟨_, s, L, _, L0, F0, H0, RR, goesTo.gr q ⟨hF, fun _ _ r h => ⟨r, h⟩⟩⟩
    | dic ks =>
      obtain ⟨od, I'⟩ := I.lock (show H a = _ from h5) trivial
      have hF : ∀ b x, F b = some x → upd F a (.frz od (.dT (ks.map fun k => (k.map Sum.inl, V.bl true)))) b = some x := fun b x h => by rw [upd_ne (ne_of_none h h2)]; exact h
      exact h.run pins st σ _ D I' ⟨_, s, L, _, L0, F0, H0, R.frz hd h1 ⟨a, od, rfl, upd_same⟩, goesTo.gr q ⟨hF, fun _ _ r h => ⟨r, h⟩⟩⟩
    | _ => exact h5.elim
  · exact h.run pins st σ H D I ⟨Γ, s, L, F, L0, F0, H0, R, q⟩
end
end Mini

end
section
set_option linter.all false
set_option autoImplicit false
set_option maxRecDepth 100000
set_option maxHeartbeats 2000000
/-! Snd13: the check of statements. -/
namespace Mini
open PySem PySem.Spec L2
open PyProof.Rows hiding St
variable [KFrag]

mutual
def MS.uses (P : Use → Prop) : MS → Prop
  | .frz _ => True
  | .set _ e => ME.uses P e
  | .setOwn _ e => ME.uses P e
  | .unp _ e => ME.uses P e
  | .par _ es => ME.usess P es
  | .aug _ _ e => ME.uses P e
  | .app _ e => ME.uses P e
  | .ext _ e => ME.uses P e
  | .put _ e => ME.uses P e
  | .upd _ e => ME.uses P e
  | .expr e => ME.uses P e
  | .ret e => ME.uses P e
  | .ite t a b => ME.uses P t ∧ MS.usess P a ∧ MS.usess P b
  | .forS _ e b => ME.uses P e ∧ MS.usess P b
  | .whl _ e b => ME.uses P e ∧ MS.usess P b
  | .raise c => P (.exc c)
def MS.usess (P : Use → Prop) : List MS → Prop
  | [] => True
  | c :: cs => MS.uses P c ∧ MS.usess P cs
end
def isLoc (sc : Scope) (x : Str) : Bool := match sc.names.lookup x with
  | some .local => true | some .cell => true
  | _ => false
def isLocal (sc : Scope) (x : Str) : Bool := match sc.names.lookup x with
  | some .local => true
  | _ => false
def notComp : Expr → Bool
  | .ListComp _ _ _ _ => false | .SetComp _ _ _ _ => false | .DictComp _ _ _ _ _ => false
  | _ => true
def notTup : Expr → Bool
  | .Tuple _ _ _ => false
  | _ => true
def isLcE : ME → Bool
  | .lc _ _ _ _ _ => true
  | _ => false
/-- a display of its own, or data -/
def chkV (N : List Str) (sc : Scope) : Bool → ME → Expr → Bool
  | true, m, e => match m, e with
    | .lst as, .List es _ => decide (as.length ≤ 1000) && chkA N as sc es []
    | _, _ => false
  | false, m, e => chk N m false sc e
def zipOk : ME → Expr → Bool
  | .zip _ _, t => (match t with | .Tuple _ _ _ => true | _ => false)
  | _, _ => true
mutual
def chkS (N : List Str) (sc : Scope) : MS → Stmt → Bool
  | .frz _, _ => false
  | .set i e, st => match st with
    | .Assign [.Name x _] v _ => decide (N[i]? = some x) && isLoc sc x && chk N e false sc v && (isLcE e || notComp v)
    | _ => false
  | .setOwn i e, st => match st with
    | .Assign [.Name x _] v _ => decide (N[i]? = some x) && isLoc sc x && chkV N sc true e v
    | _ => false
  | .unp t e, st => match st with
    | .Assign [.Tuple ts k p] v _ => chkT N sc t (.Tuple ts k p) && chk N e false sc v && notTup v
    | _ => false
  | .par ts es, st => match ts, es, st with
    | [(i, b1), (j, b2)], [m1, m2], .Assign [.Tuple [.Name x px, .Name y py] _ _] (.Tuple [a, b] _ _) _ =>
      decide (N[i]? = some x) && decide (N[j]? = some y) && decide (i ≠ j) && isLocal sc x && isLocal sc y && (py.line == px.line) && decide (x ≠ y) && !([a, b].all (foldedForSure 8)) && !([a, b].all (constantsAlone 8)) &&
        chkV N sc b1 m1 a && chkV N sc b2 m2 b
    | _, _, _ => false
  | .aug i o e, st => match st with
    | .AugAssign (.Name x _) op v _ => isOp o op && decide (N[i]? = some x) && isLoc sc x && chk N e false sc v && (decide (o = .add) || decide (o = .mul) || decide (o = .bxor))
    | _ => false
  | .app i e, st => match st with
    | .Expr (.Call (.Attribute (.Name x _) n apos) [v] [] cpos) _ => n == "append" && apos.endLine == cpos.line && decide (N[i]? = some x) && isVis sc x && plainN x && chk N e false sc v
    | _ => false
  | .ext i e, st => match st with
    | .Expr (.Call (.Attribute (.Name x _) n apos) [v] [] cpos) _ => n == "extend" && apos.endLine == cpos.line && decide (N[i]? = some x) && isVis sc x && plainN x && chk N e false sc v
    | _ => false
  | .put _ _, _ => false
  | .upd _ _, _ => false
  | .expr e, st => match st with
    | .Expr v _ => notComp v && chk N e false sc v
    | _ => false
  | .ret e, st => match st with
    | .Return (some v) _ => chk N e false sc v
    | _ => false
  | .ite t a b, st => match st with
    | .If c p q _ => chk N t false sc c && chkSs N sc a p && chkSs N sc b q
    | _ => false
  | .forS tg src body, st => match st with
    | .For t it p [] _ => chkT N sc tg t && chk N src true sc it && zipOk src t && chkSs N sc body p
    | _ => false
  | .whl n t body, st => match st with
    | .While c p [] _ => chk N t false sc c && chkSs N sc body p
    | _ => false
  | .raise c, st => match st with
    | .Raise (some (.Call (.Name x _) [.Constant (.str _) _ _] [] _)) none _ => x == c && isGl sc x && plainN x
    | _ => false
def chkSs (N : List Str) (sc : Scope) : List MS → List Stmt → Bool
  | [], sts => match sts with
    | [] => true
    | _ => false
  | m :: ms, sts => match m with
    | .frz _ => chkSs N sc ms sts
    | m => match sts with
      | st :: sts => chkS N sc m st && chkSs N sc ms sts
      | [] => false
end

structure SOk (X : Cx) (N : List Str) (scp : Scope) (E : XK) : Prop extends XOk X N scp E where
  own : PassesOwn (model X.prog X.w) X.A X.env X.xe
  tk : Takes X (fun cls d _ H => E cls d H)
  kind : scp.kind = .function
  fn : ∀ x, X.fn x = true
theorem isLoc_of {X : Cx} {sc : Scope} {x : Str} (hs : X.env.scope = sc) (h : isLoc sc x = true) : L2.Loc X.env.scope x := by
  rw [hs]
  unfold isLoc at h
  split at h <;> first | (left; assumption) | (right; assumption) | cases h
theorem isLocal_of {X : Cx} {sc : Scope} {x : Str} (hs : X.env.scope = sc) (h : isLocal sc x = true) : X.env.scope.names.lookup x = some .local := by
  rw [hs]
  unfold isLocal at h
  split at h <;> first | assumption | cases h
theorem no_swap {e : Expr} {t : Option Expr} {l : Nat} {env : PySem.Env} (h : notComp e = true) : swapsWith e t l env = pure false := by
  cases e <;> first | rfl | (cases h; done)
theorem no_swap_tup {e : Expr} {ts : List Expr} {k : Nat} {p : Pos} {l : Nat} {env : PySem.Env} : swapsWithSole [.Tuple ts k p] e l env = pure false := by
  cases e <;> rfl
theorem no_stores {e : Expr} {ts : List Expr} {k : Nat} {p : Pos} {env : PySem.Env} (h : notTup e = true) : swappedStores [.Tuple ts k p] e env = pure none := by
  cases e <;> first | rfl | (cases h; done)
theorem swap_lc {elt : Expr} {gs : List Comprehension} {scope : Scope} {pos py : Pos} {y : Str} {l : Nat} {env : PySem.Env} :
    swapsWith (.ListComp elt gs scope pos) (some (.Name y py)) l env = pure (env.blockKind == .function && env.kindOf y == some .local && py.line == pos.line && !(scope.names.any fun (n, k) => n == y && (k == .local || k == .cell))) := rfl
theorem blockKind_of {X : Cx} {N : List Str} {sc : Scope} {E : XK} (ok : SOk X N sc E) : X.env.blockKind = .function := by
  unfold PySem.Env.blockKind
  rw [ok.sc, ok.kind]
  rfl
theorem swap2 {env : PySem.Env} {x y : Str} {px py pt pt2 : Pos} {kt k2 : Nat} {a b : Expr} (hb : env.blockKind = .function) (kx : env.kindOf x = some .local) (ky : env.kindOf y = some .local) (hl : (py.line == px.line) = true) (hxy : x ≠ y)
    (ha : plainE a = true) (hb' : plainE b = true) (f : [a, b].all (foldedForSure 8) = false) (c : [a, b].all (constantsAlone 8) = false) :
    swappedStores [.Tuple [.Name x px, .Name y py] kt pt] (.Tuple [a, b] k2 pt2) env = pure (some [x, y]) := by
  have hs : ([a, b].any fun | .Starred .. => true | _ => false) = false := by
    cases a <;> cases b <;> first | rfl | (cases ha; done) | (cases hb'; done)
  have he : [x, y].eraseDups = [x, y] := by
    rw [List.eraseDups_cons]
    have : (y == x) = false := by simpa using fun e => hxy e.symm
    simp [this, List.eraseDups_cons]
  have fa : ([a, b].all (foldedForSure 8)) = false := f
  have g1 : (env.kindOf x == some NameKind.local) = true := by rw [kx]; rfl
  have g2 : (env.kindOf y == some NameKind.local) = true := by rw [ky]; rfl
  have g3 : (px.line == px.line) = true := beq_self_eq_true _
  unfold swappedStores
  simp only [List.length_cons, List.length_nil, hb, hs, List.head?_cons, Option.map_some, Option.getD_some, Expr.pos, List.filterMap_cons, List.filterMap_nil, g1, g2, g3, hl, Bool.and_true, if_true, he, f, c]
  refine (if_neg (by decide)).trans ((if_neg fun h => ?_).trans rfl)
  exact absurd (hs.symm.trans h) (by decide)
end Mini

end
section
set_option linter.all false
set_option autoImplicit false
set_option maxRecDepth 100000
set_option maxHeartbeats 4000000
/-! Snd14: what is checked does what its Mini form says: statements. -/
namespace Mini
open PySem PySem.Spec L2
open PyProof.Rows hiding St
variable [KFrag]

def SndS (N : List Str) (m : MS) : Prop := ∀ (X : Cx) (sc : Scope) (E : XK) (st : Stmt), SOk X N sc E → MS.uses (UseOk X) m → chkS N sc m st = true → PS X st (tO X.mg E (exec m))
def SndSs (N : List Str) (ms : List MS) : Prop := ∀ (X : Cx) (sc : Scope) (E : XK) (sts : List Stmt), SOk X N sc E → MS.usess (UseOk X) ms → chkSs N sc ms sts = true → PSs X sts (tO X.mg E (execs ms))
section
variable {N : List Str} {X : Cx} {sc : Scope} {E : XK}
theorem SOk.may (ok : SOk X N sc E) : MayStore X sc := fun x h => ⟨by rw [ok.sc]; exact h, .inl (ok.fn x)⟩
/-- arguments without keywords -/
theorem args_of {as : List ME} {es : List Expr} (ok : XOk X N sc E) (hu : ME.usess (UseOk X) as) (hc : chkA N as sc es [] = true) : PA X es (tEvs X.mg E as) := by
  obtain ⟨bs, cs, e1, h1, _, _, h4, h5⟩ := snds as X sc E es [] ok hu hc
  have : cs = [] := List.eq_nil_of_length_eq_zero (by rw [← h5]; rfl)
  subst this
  rw [List.append_nil] at e1
  subst e1
  exact h1
theorem val_of {b : Bool} {m : ME} {e : Expr} {es : List Expr} {ms : List ME} {bs : List Bool} (ok : XOk X N sc E) (hu : ME.uses (UseOk X) m) (hc : chkV N sc b m e = true) (hr : PA X es (tPV X.mg E bs ms)) : PA X (e :: es) (tPV X.mg E (b :: bs) (m :: ms)) := by
  cases b with
  | false =>
    have hc : chk N m false sc e = true := hc
    exact pv_dat (snd m X sc E e ok hu hc).pe hr (good_plain (good_of hc))
  | true =>
    simp only [chkV] at hc
    split at hc
    · simp only [Bool.and_eq_true, decide_eq_true_eq] at hc
      simp only [ME.uses] at hu
      exact pv_own hc.1 (pe_lst (args_of ok hu hc.2)) hr rfl
    · cases hc
theorem val_good {b : Bool} {m : ME} {e : Expr} (hc : chkV N sc b m e = true) : plainE e = true := by
  cases b with
  | false =>
    have hc : chk N m false sc e = true := hc
    exact good_plain (good_of hc)
  | true =>
    simp only [chkV] at hc
    split at hc
    · rfl
    · cases hc
theorem sndLcS {i : Nat} {x : Str} {px pos : Pos} {own : List Nat} {tg : Tg} {src elt : ME} {cond : Option ME} {v : Expr} (ok : SOk X N sc E) (hi : N[i]? = some x) (hx : isLoc sc x = true) (hu : ME.uses (UseOk X) (.lc own tg src cond elt))
    (hc : chk N (.lc own tg src cond elt) false sc v = true) : PS X (.Assign [.Name x px] v pos) (tO X.mg E (exec (.set i (.lc own tg src cond elt)))) := by
  have pe := (snd (.lc own tg src cond elt) X sc E v ok.toXOk hu hc).pe
  simp only [chk] at hc
  split at hc
  · rename_i y t z cs ia scope p
    simp only [Bool.and_eq_true, decide_eq_true_eq] at hc
    obtain ⟨⟨⟨⟨⟨⟨⟨hia, hb⟩, hn⟩, ht⟩, hs⟩, hz⟩, hcc⟩, he⟩ := hc
    subst hia
    cases hw : (X.env.blockKind == .function && X.env.kindOf x == some .local && px.line == p.line && !(scope.names.any fun (n, k) => n == x && (k == .local || k == .cell))) with
    | false =>
      refine sq_set (fun σ H Q q => q) (ps_set (by rw [ok.hN]; exact ok.nd) (by rw [ok.hN]; exact hi) (isLoc_of ok.sc hx) pe ?_ (.inl (ok.fn x)))
      exact swap_lc.trans (by rw [hw])
    | true =>
      have hl : X.env.scope.names.lookup x = some .local := by
        rw [Bool.and_eq_true, Bool.and_eq_true, Bool.and_eq_true] at hw
        have := hw.1.1.2
        rw [beq_iff_eq] at this
        exact this
      simp only [ME.uses] at hu
      obtain ⟨u1, u2, u3⟩ := hu
      have hn' : ∀ i, i ∈ Tg.names tg → i ∈ own := fun i hi => by
        rw [List.all_eq_true] at hn
        exact List.contains_iff_mem.mp (hn i hi)
      have hok : BlkOk X.N X.env.scope scope (ownP N own) := by rw [ok.hN, ok.sc]; exact blkOk_by hb
      have pi := sndi src X sc E z t ok.toXOk u1 hs (by
        cases src <;> first | trivial | skip
        cases t <;> first | exact ⟨_, _, _, rfl⟩ | (cases hz; done))
      refine sq_set (te := tLc (tI X.mg E src) (rTg X.K tg) (tCond X.mg cond) (tEv X.mg E0 elt) ((ownP N own).map (·.2))) (fun σ H Q q => ?_) (ps_setLc (py := px) (spos := pos) (g := rTg X.K tg) (tt := tCond X.mg cond) (te := tEv X.mg E0 elt) ok.calm (by rw [ok.hN]; exact ok.nd) (by rw [ok.hN]; exact hi) hl
        (swap_lc.trans (by rw [hw])) pi hok
        (fun s H C cl fp => sg (tsc := scope) (X := X.blk s H scope (compEnvC scope cl C X.env) fp) ok.hN ok.nd ok.calm (mayStore_blk s H scope C cl fp) tg t ht)
        (fun s H C cl fp => sndc cond _ _ cs (ok.toXOk.blk s H scope C cl fp) u2 hcc)
        (fun s H C cl fp => (snd elt _ _ _ y (ok.toXOk.blk s H scope C cl fp) u3 he).pe) (noFold (good_set (good_of hs))))
      rw [ownP_snd]
      exact lc_read hn' q
  · cases hc
end
theorem chkSs_cons {N : List Str} {sc : Scope} {m : MS} {ms : List MS} {sts : List Stmt} (h : chkSs N sc (m :: ms) sts = true) : (∃ i, m = .frz i ∧ chkSs N sc ms sts = true) ∨ ∃ st r, sts = st :: r ∧ chkS N sc m st = true ∧ chkSs N sc ms r = true := by
  cases m
  case frz i => exact .inl ⟨i, rfl, by simpa only [chkSs] using h⟩
  all_goals
    right
    cases sts with
    | nil => simp [chkSs] at h
    | cons st r =>
      simp only [chkSs, Bool.and_eq_true] at h
      exact ⟨st, r, rfl, h.1, h.2⟩
section
variable {N : List Str}
mutual
theorem sndS : ∀ m : MS, SndS N m
  | .frz i => fun X sc E st ok hu hc => by simp [chkS] at hc
  | .put i k => fun X sc E st ok hu hc => by simp [chkS] at hc
  | .upd i k => fun X sc E st ok hu hc => by simp [chkS] at hc
  | .set i e => fun X sc E st ok hu hc => by
    simp only [chkS] at hc
    split at hc
    · rename_i x px v pos
      simp only [Bool.and_eq_true, decide_eq_true_eq] at hc
      obtain ⟨⟨⟨h1, h2⟩, h3⟩, h4⟩ := hc
      by_cases hl : isLcE e = true
      · cases e <;> first | (cases hl; done) | exact sndLcS ok h1 h2 hu h3
      · rw [Bool.or_eq_true] at h4
        have h4 := h4.resolve_left hl
        exact sq_set (fun σ H Q q => q) (ps_set (by rw [ok.hN]; exact ok.nd) (by rw [ok.hN]; exact h1) (isLoc_of ok.sc h2) (snd e X sc E v ok.toXOk hu h3).pe (no_swap h4) (.inl (ok.fn x)))
    · cases hc
  | .setOwn i e => fun X sc E st ok hu hc => by
    simp only [chkS] at hc
    split at hc
    · rename_i x px v pos
      simp only [Bool.and_eq_true, decide_eq_true_eq] at hc
      obtain ⟨⟨h1, h2⟩, h3⟩ := hc
      simp only [chkV] at h3
      split at h3
      · simp only [Bool.and_eq_true, decide_eq_true_eq] at h3
        simp only [MS.uses, ME.uses] at hu
        exact sq_setOwn h3.1 (ps_set (by rw [ok.hN]; exact ok.nd) (by rw [ok.hN]; exact h1) (isLoc_of ok.sc h2) (pe_lst (args_of ok.toXOk hu h3.2)) rfl (.inl (ok.fn x)))
      · cases h3
    · cases hc
  | .unp t e => fun X sc E st ok hu hc => by
    simp only [chkS] at hc
    split at hc
    · rename_i ts k p v pos
      simp only [Bool.and_eq_true] at hc
      obtain ⟨⟨h1, h2⟩, h3⟩ := hc
      exact sq_unp (ps_asg (snd e X sc E v ok.toXOk hu h2).pe (sg ok.hN ok.nd ok.calm ok.may t _ h1) no_swap_tup (no_stores h3) rfl)
    · cases hc
  | .par ts es => fun X sc E st ok hu hc => by
    simp only [chkS] at hc
    split at hc
    · rename_i i b1 j b2 m1 m2 x px y py kt pt a b k2 pt2 pos
      simp only [Bool.and_eq_true, decide_eq_true_eq, Bool.not_eq_true'] at hc
      obtain ⟨⟨⟨⟨⟨⟨⟨⟨⟨⟨h1, h2⟩, h3⟩, h4⟩, h5⟩, h6⟩, h7⟩, h8⟩, h9⟩, h10⟩, h11⟩ := hc
      simp only [MS.uses, ME.usess] at hu
      have kx := isLocal_of ok.sc h4
      have ky := isLocal_of ok.sc h5
      exact sq_par2 (ps_par ok.calm (by rw [ok.hN]; exact ok.nd) (by rw [ok.hN]; exact h1) (by rw [ok.hN]; exact h2) h3 kx ky (val_of ok.toXOk hu.1 h10 (val_of ok.toXOk hu.2.1 h11 pv_nil))
        (swap2 (blockKind_of ok) kx ky h6 h7 (val_good h10) (val_good h11) h8 h9) no_swap_tup)
    · cases hc
  | .aug i o e => fun X sc E st ok hu hc => by
    simp only [chkS] at hc
    split at hc
    · rename_i x px op v pos
      simp only [Bool.and_eq_true, decide_eq_true_eq, Bool.or_eq_true] at hc
      obtain ⟨⟨⟨⟨h1, h2⟩, h3⟩, h4⟩, h5⟩ := hc
      obtain rfl := isOp_eq h1
      exact sq_aug (ti := fun _ _ _ _ => True) (by rcases h5 with (h | h) | h <;> simp [h]) (ps_aug (by rw [ok.hN]; exact ok.nd) (by rw [ok.hN]; exact h2) (isLoc_of ok.sc h3) (snd e X sc E v ok.toXOk hu h4).pe (aug_ok o) (.inl (ok.fn x)))
    · cases hc
  | .app i e => fun X sc E st ok hu hc => by
    simp only [chkS] at hc
    split at hc
    · rename_i x px n apos v cpos pos
      simp only [Bool.and_eq_true, decide_eq_true_eq] at hc
      obtain ⟨⟨⟨⟨⟨h1, h2⟩, h3⟩, h4⟩, h5⟩, h6⟩ := hc
      rw [beq_iff_eq] at h1
      subst h1
      have pl := good_plain (good_of h6)
      have hst := star_plain (es := []) (env := X.env) pl
      exact sq_app (ps_expr (pe_bm PySem.F.plainAttrs_list PySem.F.slot_list_append PySem.F.type_list_append mt_append (pe_var (by rw [ok.hN]; exact h3) (by rw [ok.sc]; exact vis_of h4) (plainN_of h5).1 (plainN_of h5).2.1)
        (pa_cons (snd e X sc E v ok.toXOk hu h6).pe pa_nil hst) rfl (by rw [hst]; rfl) h2 hst rfl) rfl)
    · cases hc
  | .ext i e => fun X sc E st ok hu hc => by
    simp only [chkS] at hc
    split at hc
    · rename_i x px n apos v cpos pos
      simp only [Bool.and_eq_true, decide_eq_true_eq] at hc
      obtain ⟨⟨⟨⟨⟨h1, h2⟩, h3⟩, h4⟩, h5⟩, h6⟩ := hc
      rw [beq_iff_eq] at h1
      subst h1
      have pl := good_plain (good_of h6)
      have hst := star_plain (es := []) (env := X.env) pl
      exact sq_ext (ps_expr (pe_bm PySem.F.plainAttrs_list PySem.F.slot_list_extend PySem.F.type_list_extend mt_extend (pe_var (by rw [ok.hN]; exact h3) (by rw [ok.sc]; exact vis_of h4) (plainN_of h5).1 (plainN_of h5).2.1)
        (pa_cons (snd e X sc E v ok.toXOk hu h6).pe pa_nil hst) rfl (by rw [hst]; rfl) h2 hst rfl) rfl)
    · cases hc
  | .expr e => fun X sc E st ok hu hc => by
    simp only [chkS] at hc
    split at hc
    · rw [Bool.and_eq_true] at hc
      exact sq_expr (snd e X sc E _ ok.toXOk hu hc.2).pe (no_swap hc.1)
    · cases hc
  | .ret e => fun X sc E st ok hu hc => by
    simp only [chkS] at hc
    split at hc
    · exact sq_ret (snd e X sc E _ ok.toXOk hu hc).pe
    · cases hc
  | .ite t a b => fun X sc E st ok hu hc => by
    simp only [chkS] at hc
    split at hc
    · simp only [Bool.and_eq_true] at hc
      simp only [MS.uses] at hu
      exact sq_ite (snd t X sc E _ ok.toXOk hu.1 hc.1.1).pt (sndSs a X sc E _ ok hu.2.1 hc.1.2) (sndSs b X sc E _ ok hu.2.2 hc.2)
    · cases hc
  | .forS tg src body => fun X sc E st ok hu hc => by
    simp only [chkS] at hc
    split at hc
    · rename_i t it p pos
      simp only [Bool.and_eq_true] at hc
      obtain ⟨⟨⟨h1, h2⟩, h3⟩, h4⟩ := hc
      simp only [MS.uses] at hu
      refine sq_for ok.own ok.calm (sndi src X sc E it t ok.toXOk hu.1 h2 ?_) (sg ok.hN ok.nd ok.calm ok.may tg t h1) (sndSs body X sc E _ ok hu.2 h4) (good_set (good_of h2))
      cases src <;> first | trivial | skip
      cases t <;> first | exact ⟨_, _, _, rfl⟩ | (cases h3; done)
    · cases hc
  | .whl n t body => fun X sc E st ok hu hc => by
    simp only [chkS] at hc
    split at hc
    · simp only [Bool.and_eq_true] at hc
      simp only [MS.uses] at hu
      exact sq_whl ok.own (snd t X sc E _ ok.toXOk hu.1 hc.1).pt (sndSs body X sc E _ ok hu.2 hc.2)
    · cases hc
  | .raise c => fun X sc E st ok hu hc => by
    simp only [chkS] at hc
    split at hc
    · rename_i x px m k p2 p3 pos
      simp only [Bool.and_eq_true, beq_iff_eq] at hc
      obtain ⟨⟨rfl, h2⟩, h3⟩ := hc
      obtain ⟨C, B, newId, initId, bmB, hm, F, q, kC, r⟩ := hu
      exact sq_raise (W := fun _ _ _ _ => True) ok.calm ok.tk hm (pmk_own F q hm kC r (gl_of ok.sc h2) (plainN_of h3).1)
    · cases hc
theorem sndSs : ∀ ms : List MS, SndSs N ms
  | [] => fun X sc E sts ok hu hc => by
    cases sts with
    | nil => exact sq_nil
    | cons => simp [chkSs] at hc
  | m :: ms => fun X sc E sts ok hu hc => by
    simp only [MS.usess] at hu
    rcases chkSs_cons hc with ⟨i, rfl, h⟩ | ⟨st, r, rfl, h1, h2⟩
    · exact sq_frz (sndSs ms X sc E sts ok hu.2 h)
    · exact sq_cons (sndS m X sc E _ ok hu.1 h1) (sndSs ms X sc E _ ok hu.2 h2)
end
end
end Mini

end
section
set_option linter.all false
set_option autoImplicit false
set_option maxRecDepth 100000
set_option maxHeartbeats 1000000
/-! Snd15: defs. -/
namespace Mini
open PySem PySem.Spec L2
open PyProof.Rows hiding St
variable [KFrag]

/-- what is known of a def: called at level k at most, it does what m says -/
def CallK (P : Program) (w : World) (K : PySem.W.Frag) (mg : Str → Option Value) (base : Heap) (k : Nat) (f : Str) (kw : List Str) (m : List D → M D) (n : Nat) : Prop :=
  ∃ fa fd ps, FnOk P w K mg base (L2.CX P w) k fa fd ps (spM mg n m) ∧ mg f = some (.ref fa) ∧ PySem.W.keepIn K (.ref fa) = true ∧
    ∀ (s : Shared) (us ws : List Value), K.In s.heap → us.length + ws.length = n → ws.length = kw.length → BindsTo s fd ⟨us, kw.zip ws⟩ (ps.zip (us ++ ws))
def UseK (P : Program) (w : World) (K : PySem.W.Frag) (mg : Str → Option Value) (base : Heap) (k : Nat) : Use → Prop
  | .call f kw m n => CallK P w K mg base k f kw m n
  | .glob x i => ∃ t, mg x = some (.int i t)
  | .exc c => ∃ (C : Addr) (B newId initId : String) (bmB : List Value), mg c = some (.ref C) ∧ ExcBaseFacts B newId initId bmB ∧ PySem.W.excIn K C bmB newId = true ∧ PySem.W.keepIn K (.ref C) = true ∧ PySem.W.subIn K (.ref C) (.type "BaseException") = some true ∧ PySem.W.typeIn K (.ref C) = some (.type "type")
theorem CallK.mono {P : Program} {w : World} {K : PySem.W.Frag} {mg : Str → Option Value} {base : Heap} {j k : Nat} {f : Str} {kw : List Str} {m : List D → M D} {n : Nat} (h : CallK P w K mg base j f kw m n) (hk : j ≤ k) : CallK P w K mg base k f kw m n := by
  obtain ⟨fa, fd, ps, F, h1, h2, h3⟩ := h
  exact ⟨fa, fd, ps, F.mono hk, h1, h2, h3⟩
section
variable {P Q : Use → Prop}
mutual
theorem ME.uses_mono (h : ∀ u, P u → Q u) : ∀ m : ME, ME.uses P m → ME.uses Q m
  | .non, _ => trivial | .bl _, _ => trivial | .int _, _ => trivial | .str _, _ => trivial
  | .glob x i, z => h _ z
  | .var _, _ => trivial
  | .bin _ a b, z => ⟨ME.uses_mono h a z.1, ME.uses_mono h b z.2⟩
  | .neg a, z => ME.uses_mono h a z
  | .inv a, z => ME.uses_mono h a z
  | .cmp _ a b, z => ⟨ME.uses_mono h a z.1, ME.uses_mono h b z.2⟩
  | .cmp2 _ _ a b c, z => ⟨ME.uses_mono h a z.1, ME.uses_mono h b z.2.1, ME.uses_mono h c z.2.2⟩
  | .andE a b, z => ⟨ME.uses_mono h a z.1, ME.uses_mono h b z.2⟩
  | .orE a b, z => ⟨ME.uses_mono h a z.1, ME.uses_mono h b z.2⟩
  | .notE a, z => ME.uses_mono h a z
  | .ife t a b, z => ⟨ME.uses_mono h t z.1, ME.uses_mono h a z.2.1, ME.uses_mono h b z.2.2⟩
  | .tup es, z => ME.usess_mono h es z
  | .lst es, z => ME.usess_mono h es z
  | .call f kw m es, z => ⟨h _ z.1, ME.usess_mono h es z.2⟩
  | .blt _ es, z => ME.usess_mono h es z
  | .isi a _, z => ME.uses_mono h a z
  | .sub a i, z => ⟨ME.uses_mono h a z.1, ME.uses_mono h i z.2⟩
  | .sl a lo hi, z => ⟨ME.uses_mono h a z.1, ME.useso_mono h lo z.2.1, ME.useso_mono h hi z.2.2⟩
  | .rev a, z => ME.uses_mono h a z
  | .dic0, _ => trivial
  | .dic1 a, z => ME.uses_mono h a z
  | .lc _ _ src cond elt, z => ⟨ME.uses_mono h src z.1, ME.useso_mono h cond z.2.1, ME.uses_mono h elt z.2.2⟩
  | .rng1 a, z => ME.uses_mono h a z
  | .rng2 a b, z => ⟨ME.uses_mono h a z.1, ME.uses_mono h b z.2⟩
  | .zip a b, z => ⟨ME.uses_mono h a z.1, ME.uses_mono h b z.2⟩
  | .enm a, z => ME.uses_mono h a z
  | .res a, z => ME.uses_mono h a z
theorem ME.usess_mono (h : ∀ u, P u → Q u) : ∀ ms : List ME, ME.usess P ms → ME.usess Q ms
  | [], _ => trivial
  | m :: ms, z => ⟨ME.uses_mono h m z.1, ME.usess_mono h ms z.2⟩
theorem ME.useso_mono (h : ∀ u, P u → Q u) : ∀ o : Option ME, ME.useso P o → ME.useso Q o
  | none, _ => trivial
  | some m, z => ME.uses_mono h m z
end
mutual
theorem MS.uses_mono (h : ∀ u, P u → Q u) : ∀ m : MS, MS.uses P m → MS.uses Q m
  | .frz _, _ => trivial
  | .set _ e, z => ME.uses_mono h e z
  | .setOwn _ e, z => ME.uses_mono h e z
  | .unp _ e, z => ME.uses_mono h e z
  | .par _ es, z => ME.usess_mono h es z
  | .aug _ _ e, z => ME.uses_mono h e z
  | .app _ e, z => ME.uses_mono h e z
  | .ext _ e, z => ME.uses_mono h e z
  | .put _ e, z => ME.uses_mono h e z
  | .upd _ e, z => ME.uses_mono h e z
  | .expr e, z => ME.uses_mono h e z
  | .ret e, z => ME.uses_mono h e z
  | .ite t a b, z => ⟨ME.uses_mono h t z.1, MS.usess_mono h a z.2.1, MS.usess_mono h b z.2.2⟩
  | .forS _ e b, z => ⟨ME.uses_mono h e z.1, MS.usess_mono h b z.2⟩
  | .whl _ e b, z => ⟨ME.uses_mono h e z.1, MS.usess_mono h b z.2⟩
  | .raise c, z => h _ z
theorem MS.usess_mono (h : ∀ u, P u → Q u) : ∀ ms : List MS, MS.usess P ms → MS.usess Q ms
  | [], _ => trivial
  | m :: ms, z => ⟨MS.uses_mono h m z.1, MS.usess_mono h ms z.2⟩
end
end
section
variable {P : Program} {w : World} {K : PySem.W.Frag} {mg : Str → Option Value} {base : Heap}
theorem sok {N ps : List Str} {qual : Str} {st : Stmt} {f : Addr} {cdv : Value} {A : Around} {outer : List PySem.Env} {s : Shared} {H : Hp} {E : XK} {k : Nat} (S : FnScope N ps (defScope st)) (hb : ∀ x, x ∈ bnames → mg x = none)
    (hr : Room k (A.deeper (envOfC qual (defScope st) s.heap.objs.size f cdv))) : SOk (cxOf (L2.CX P w) P w K mg base N qual (defScope st) f cdv A outer s H E) N (defScope st) E := by
  have tk : Takes (cxOf (L2.CX P w) P w K mg base N qual (defScope st) f cdv A outer s H E) (fun cls d _ H => E cls d H) := takes_of rfl rfl rfl rfl
  exact ⟨⟨rfl, rfl, S.nd, rfl, passes_call tk fun _ _ _ _ h => h, by have := hr.un; show (A.deeper _).units + 200 < cLine; omega, hb⟩, passes_of rfl, tk, S.kind, fun _ => rfl⟩
theorem uses_of {k : Nat} {X : Cx} (hP : X.prog = P) (hw : X.w = w) (hK : X.K = K) (hm : X.mg = mg) (hb : X.base = base) (hr : Room k X.A) : ∀ u, UseK P w K mg base k u → UseOk X u := by
  subst hP hw hK hm hb
  intro u h
  cases u with
  | call f kw m n =>
    obtain ⟨fa, fd, ps, F, h1, h2, h3⟩ := h
    exact ⟨k, fa, fd, ps, F, hr, h1, h2, h3⟩
  | glob x i => exact h
  | exc c =>
    obtain ⟨C, B, ni, ii, bm, h1, h2, h3, h4, h5, h6⟩ := h
    exact ⟨C, B, ni, ii, bm, h1, h2, h3, h4, raises_own h5 h6⟩
theorem rel_start {N : List Str} {L : Loc} {s : S} {F H : Hp} {ds : List D} {vs : List V} (w : WOk L s F H) (h : DVs L F ds vs) :
    Rel (ds.map (fun d => some (Slot.dat d)) ++ List.replicate (N.length - ds.length) none) s L F L F H (L2.start N vs) H := by
  have hl := h.len
  refine ⟨w, Ext.refl .., by unfold L2.start; simp [hl], fun i x hx => ?_, fun i j d d' hi hj hij => ?_⟩
  · by_cases hi : i < ds.length
    · rw [List.getElem?_append_left (by simpa using hi), List.getElem?_map, List.getElem?_eq_getElem hi] at hx
      cases hx
      obtain ⟨v, hv, dv⟩ := h.get (List.getElem?_eq_getElem hi)
      refine ⟨v, ?_, dv⟩
      unfold L2.start
      rw [List.getElem?_append_left (by rw [List.length_map, ← hl]; exact hi), List.getElem?_map, hv]
      rfl
    · rw [List.getElem?_append_right (by simpa using hi)] at hx
      rw [List.getElem?_replicate] at hx
      split at hx <;> cases hx
  · by_cases hi' : i < ds.length
    · rw [List.getElem?_append_left (by simpa using hi'), List.getElem?_map, List.getElem?_eq_getElem hi'] at hi
      cases hi
    · rw [List.getElem?_append_right (by simpa using hi'), List.getElem?_replicate] at hi
      split at hi <;> cases hi
/-- THE DEF: checked, it does what its Mini form says -/
theorem def_ok {x qual : Str} {st : Stmt} {f : Addr} {fd : FuncData} {N ps : List Str} {k n l : Nat} {body : List MS} (F : Fun K x qual st f fd) (S : FnScope N ps (defScope st)) (hb : ∀ x, x ∈ bnames → mg x = none)
    (hn : ps.length = n) (hl : N.length = l) (hc : chkSs N (defScope st) body (defBody st) = true) (hu : MS.usess (UseK P w K mg base k) body) : FnOk P w K mg base (L2.CX P w) (k + 1) f fd ps (spM mg n (run l body)) := by
  refine F.okX S (fun vs H Q E h => h.1.trans hn.symm) fun cdv A outer s H vs Q E hr h => ?_
  obtain ⟨hlen, L, s', F', ds, w', dv, hw⟩ := h
  have ok : SOk (cxOf (L2.CX P w) P w K mg base N qual (defScope st) f cdv A outer s H E) N (defScope st) E := sok S hb hr
  refine ⟨_, sndSs body _ _ E _ ok (MS.usess_mono (uses_of (X := cxOf (L2.CX P w) P w K mg base N qual (defScope st) f cdv A outer s H E) rfl rfl rfl rfl rfl hr) _ hu) hc, ?_⟩
  subst hl
  refine ⟨_, s', L, F', L, F', H, rel_start (N := N) w' dv, ?_⟩
  unfold run at hw
  unfold goesTo
  have e : ds.length = vs.length := dv.len
  cases hx : execs body (ds.map (fun d => some (.dat d)) ++ List.replicate (N.length - ds.length) none) s' with
  | next Γ s1 =>
    rw [hx] at hw
    exact fun σ' L1 F1 H1 R g => hw .non L1 F1 H1 R.w R.e rfl
  | ret d s1 =>
    rw [hx] at hw
    exact fun v L1 F1 H1 w1 e1 r1 => hw v L1 F1 H1 w1 e1 r1
  | err c s1 =>
    rw [hx] at hw
    exact hw
  | bad =>
    rw [hx] at hw
    exact hw
end
end Mini

end
section
set_option linter.all false
set_option autoImplicit false
set_option maxRecDepth 100000
set_option maxHeartbeats 2000000
/-! Draw: what the two hand-written defs need. -/
namespace Mini
open PySem PySem.Spec L2
open PyProof.Rows hiding St
variable [KFrag]

theorem sqF {K : PySem.W.Frag} {F H : Hp} {a : Addr} {xs : List V} (h : SqL K F a xs) (hs : ∀ a o, F a = some o → H a = some o) : SqL K H a xs := h.imp (rd_ext hs) id
theorem ctr : ¬ (("count" : Str) = "rests") := by decide +kernel
def townV (c : Int) (b : Addr) : List (Key × V) := [(Sum.inr (Str.ofString "count"), .int c), (Sum.inr (Str.ofString "rests"), .ref b)]
theorem town_count (c : Int) (b : Addr) : valV (townV c b) (Sum.inr (Str.ofString "count")) = some (.int c) := valV_pos rfl
theorem town_rests (c : Int) (b : Addr) : valV (townV c b) (Sum.inr (Str.ofString "rests")) = some (.ref b) := by
  unfold townV
  rw [valV_neg (fun e => ctr (Sum.inr.inj e)), valV_pos rfl]
theorem town_put (c c' : Int) (b : Addr) : L2.putK (townV c b) (Sum.inr (Str.ofString "count")) (.int c') = townV c' b := by
  have n : ¬ (Sum.inr (Str.ofString "rests") : Key) = Sum.inr (Str.ofString "count") := fun e => ctr (Sum.inr.inj e).symm
  unfold L2.putK townV
  simp [n]
theorem rests_val (r : List (Int × Int)) (k : Int) : valV (restsV r) (Sum.inl k) = (r.lookup k).map V.int := by
  induction r with
  | nil => rfl
  | cons p r ih =>
    show valV ((Sum.inl p.1, V.int p.2) :: restsV r) (Sum.inl k) = _
    by_cases e : p.1 = k
    · rw [valV_pos (by rw [e])]
      simp [List.lookup, e]
    · rw [valV_neg (fun z => e (Sum.inl.inj z)), ih]
      have : (k == p.1) = false := by simpa using fun z : k = p.1 => e z.symm
      simp [List.lookup, this]
def restsPut (r : List (Int × Int)) (k q : Int) : List (Int × Int) := if (r.lookup k).isSome then r.map (fun p => if p.1 = k then (k, q) else p) else r ++ [(k, q)]
theorem lookup_any (r : List (Int × Int)) (k : Int) : (r.lookup k).isSome = r.any (fun p => decide (p.1 = k)) := by
  induction r with
  | nil => rfl
  | cons p r ih =>
    by_cases e : p.1 = k
    · simp [List.lookup, e]
    · have : (k == p.1) = false := by simpa using fun z : k = p.1 => e z.symm
      simp [List.lookup, this, e, ih]
theorem rests_put (r : List (Int × Int)) (k q : Int) : L2.putK (restsV r) (Sum.inl k) (.int q) = restsV (restsPut r k q) := by
  unfold L2.putK restsPut
  have e1 : ((restsV r).any fun kv => decide (kv.1 = Sum.inl k)) = (r.lookup k).isSome := by
    rw [lookup_any]
    unfold restsV
    rw [List.any_map]
    congr 1
    funext p
    simp
  rw [e1]
  cases h : (r.lookup k).isSome with
  | true =>
    rw [if_pos rfl, if_pos rfl]
    unfold restsV
    rw [List.map_map, List.map_map]
    congr 1
    funext p
    by_cases e : p.1 = k
    · simp [e]
    · simp [e]
  | false =>
    rw [if_neg Bool.false_ne_true, if_neg Bool.false_ne_true]
    unfold restsV
    rw [List.map_append]
    rfl
theorem rests_len {r : List (Int × Int)} : (restsV r).length = r.length := by unfold restsV; rw [List.length_map]
/-- the town has changed -/
theorem WOk.town {L : Loc} {s : S} {F H : Hp} {n : Nat} {t b : Addr} {c c' : Int} {r r' : List (Int × Int)} (w : WOk L s F H) (hs : s[n]? = some (.town c r)) (hL : L[n]? = some (t, [b])) (hb : b ≠ t) :
    WOk L (s.set n (.town c' r')) F (upd (upd H t (.dK (townV c' b))) b (.dK (restsV r'))) ∧ Ext L F H L F (upd (upd H t (.dK (townV c' b))) b (.dK (restsV r'))) := by
  have ft : Loc.foot L t := foot_of hL
  have fb : Loc.foot L b := foot_of' hL (by simp)
  obtain ⟨nt1, nt2⟩ := w.nof t ft
  obtain ⟨nb1, nb2⟩ := w.nof b fb
  have keep : ∀ a, a ≠ t → a ≠ b → upd (upd H t (.dK (townV c' b))) b (.dK (restsV r')) a = H a := fun a h1 h2 => by rw [upd_ne h2, upd_ne h1]
  have hn : n < s.length := (List.getElem?_eq_some_iff.mp hs).1
  have ap : ∀ a, Loc.foot L a → H a ≠ none := fun a h => (w.nof a h).2
  refine ⟨⟨fun a o h => ?_, by rw [List.length_set]; exact w.len, fun m o a q h1 h2 => ?_, fun a h => ⟨(w.nof a h).1, ?_⟩, w.apart⟩, ⟨fun _ _ h => h, fun a o h n' => ?_, fun a h => ?_, fun a xs h => ?_, fun a h1 h2 => absurd h1 h2, fun a h => .inl h, fun m a q h => ⟨q, h⟩⟩⟩
  · rw [keep a (ne_of_none h nt1) (ne_of_none h nb1)]
    exact w.sub a o h
  · by_cases e : n = m
    · subst e
      rw [List.getElem?_set_self hn] at h1
      cases h1
      rw [hL] at h2
      cases h2
      exact ⟨b, rfl, hb, by rw [upd_ne hb.symm, upd_same]; rfl, by rw [upd_same]⟩
    · rw [List.getElem?_set_ne e] at h1
      have z := w.objs m o a q h1 h2
      refine z.keep (fun _ _ h => h) fun x hx => keep x ?_ ?_
      · intro e'; subst e'
        exact w.apart n m _ _ hL h2 e x (.inl rfl) hx
      · intro e'; subst e'
        exact w.apart n m _ _ hL h2 e x (.inr (by simp)) hx
  · by_cases e1 : a = b
    · subst e1; rw [upd_same]; simp
    · by_cases e2 : a = t
      · subst e2; rw [upd_ne e1, upd_same]; simp
      · rw [keep a e2 e1]; exact ap a h
  · rw [keep a (fun e => n' (e ▸ ft)) (fun e => n' (e ▸ fb))]; exact h
  · by_cases e1 : a = b
    · subst e1; rw [upd_same]; simp
    · by_cases e2 : a = t
      · subst e2; rw [upd_ne e1, upd_same]; simp
      · rw [keep a e2 e1]; exact h
  · rw [keep a (fun e => ?_) (fun e => ?_)]
    · exact h
    · subst e; exact w.foot_notup ft xs h
    · subst e; exact w.foot_notup fb xs h
end Mini

end
section
set_option linter.all false
set_option autoImplicit false
set_option maxRecDepth 100000
set_option maxHeartbeats 1000000
/-! Law: the ends. -/
namespace Mini
open PySem PySem.Spec L2
open PyProof.Rows hiding St
theorem cx_no {P : Program} {w : World} {outer : List PySem.Env} {H : Hp} {s s' : Shared} {e : Value} (h : L2.CX P w outer H s (fun _ _ _ => False) e s') : False := by
  obtain ⟨_, _, _, _, _, _, _, _, _, _, _, _, z⟩ := h
  exact z
variable [KFrag]
section
variable {P : Program} {w : World} {K : PySem.W.Frag} {mg : Str → Option Value} {base : Heap}
theorem callK_pos {x qual : Str} {st : Stmt} {f : Addr} {fd : FuncData} {ps : List Str} {k n : Nat} {m : List D → M D} (F : Fun K x qual st f fd) (O : FnOk P w K mg base (L2.CX P w) k f fd ps (spM mg n m)) (g : mg x = some (.ref f)) (hn : ps.length = n)
    (h : ∀ (kV doc pm : Value) (an : Option Addr) (cdv ct : Value) (us : List Value), us.length = ps.length → bindArgs (PySem.W.fnOf x qual (defArgs st) (defBody st) (defScope st) .none kV doc pm an cdv ct) ⟨us, []⟩ = pure (ps.zip us)) : CallK P w K mg base k x [] m n := by
  refine ⟨f, fd, ps, O, g, F.kp, fun s us ws _ h1 h2 => ?_⟩
  have e : ws = [] := List.eq_nil_of_length_eq_zero h2
  subst e
  rw [List.append_nil]
  obtain ⟨oc, od, kV, doc, pm, an, cdv, ct, osl, rfl, lk, hcd⟩ := F.ex
  exact .of_eq (h kV doc pm an cdv ct us (by rw [hn]; simpa using h1))
theorem callK_kws {x qual : Str} {st : Stmt} {f : Addr} {fd : FuncData} {ps kw : List Str} {k n : Nat} {m : List D → M D} (F : Fun K x qual st f fd) (O : FnOk P w K mg base (L2.CX P w) k f fd ps (spM mg n m)) (g : mg x = some (.ref f)) (hn : ps.length = n) (hk : kw.length = n)
    (h : ∀ (kV doc pm : Value) (an : Option Addr) (cdv ct : Value) (ws : List Value), ws.length = ps.length → bindArgs (PySem.W.fnOf x qual (defArgs st) (defBody st) (defScope st) .none kV doc pm an cdv ct) ⟨[], kw.zip ws⟩ = pure (ps.zip ws)) : CallK P w K mg base k x kw m n := by
  refine ⟨f, fd, ps, O, g, F.kp, fun s us ws _ h1 h2 => ?_⟩
  have e : us = [] := List.eq_nil_of_length_eq_zero (by omega)
  subst e
  obtain ⟨oc, od, kV, doc, pm, an, cdv, ct, osl, rfl, lk, hcd⟩ := F.ex
  exact .of_eq (h kV doc pm an cdv ct ws (by omega))
end
/-- the law's promise from what its Mini form answers -/
theorem spM_law {mg : Str → Option Value} {m : List D → M D} {a : Addr} {ns : List Int} {H : Hp} {Q : VK} {E : XK} (hS : SqL KFrag.k H a (ns.map V.int)) (h : ∃ s, m [.scr ns] [] = .ok (.bl true) s) (q : ∀ H', Q (.bl true) H') : spM mg 1 m [.ref a] H Q E := by
  obtain ⟨s, h⟩ := h
  refine ⟨rfl, [], [], H, [.scr ns], ⟨fun _ _ h => h, rfl, fun n o a r h => by simp at h, fun a ⟨p, hp, _⟩ => by simp at hp, fun n m p q h => by simp at h⟩, ⟨_, [], rfl, ⟨a, rfl, hS⟩, rfl⟩, ?_⟩
  rw [h]
  intro b L' F' H' _ _ e
  have e : b = .bl true := e
  rw [e]
  exact q H'
end Mini

end
section
set_option linter.all false
set_option autoImplicit false
set_option maxRecDepth 100000
set_option maxHeartbeats 1000000
/-! Pure: reading Mini's evaluator. -/
namespace Mini
open PySem (Str)
variable [KFrag]

/-- it answers, and P holds of the answer and of the store -/
abbrev Gives {α : Type} (r : Res α) (P : α → S → Prop) : Prop := wp r P fun _ _ => False
theorem eq_of_wp {α : Type} {r : Res α} {d : α} {s : S} (h : wp r (fun d' s' => d' = d ∧ s' = s) fun _ _ => False) : r = .ok d s := by
  cases r with
  | ok a t => obtain ⟨rfl, rfl⟩ := h; rfl
  | err c t => exact h.elim
  | bad => exact h.elim
theorem wp_ok {α : Type} {a : α} {s : S} {ok : α → S → Prop} {er : Str → S → Prop} : wp (.ok a s) ok er ↔ ok a s := Iff.rfl
theorem wp_some {α : Type} {a : α} {s : S} {ok : α → S → Prop} {er : Str → S → Prop} : wp (M.opt (some a) s) ok er ↔ ok a s := Iff.rfl
theorem wp_calm' {α : Type} {m : M α} {s : S} {ok : α → S → Prop} {er : Str → S → Prop} : wp (M.calm m s) ok er ↔ wp (m s) ok fun _ _ => False := by
  unfold M.calm
  cases m s <;> exact Iff.rfl
theorem wp_run {n : Nat} {body : List MS} {ds : List D} {s : S} {ok : D → S → Prop} {er : Str → S → Prop} :
    wp (run n body ds s) ok er ↔ wpO (execs body (ds.map (fun d => some (.dat d)) ++ List.replicate (n - ds.length) none) s) (fun _ s => ok .non s) ok er := by
  unfold run
  cases execs body (ds.map (fun d => some (.dat d)) ++ List.replicate (n - ds.length) none) s <;> exact Iff.rfl
theorem wpO_next {Γ : Env} {s : S} {nx : Env → S → Prop} {rt : D → S → Prop} {er : Str → S → Prop} : wpO (.next Γ s) nx rt er ↔ nx Γ s := Iff.rfl
theorem wpO_ret {d : D} {s : S} {nx : Env → S → Prop} {rt : D → S → Prop} {er : Str → S → Prop} : wpO (.ret d s) nx rt er ↔ rt d s := Iff.rfl
theorem wpO_err {c : Str} {s : S} {nx : Env → S → Prop} {rt : D → S → Prop} {er : Str → S → Prop} : wpO (.err c s) nx rt er ↔ er c s := Iff.rfl
theorem wpO_some {α : Type} {a : α} {f : α → Out} {nx : Env → S → Prop} {rt : D → S → Prop} {er : Str → S → Prop} : wpO (opt (some a) f) nx rt er ↔ wpO (f a) nx rt er := Iff.rfl
/-! ### equations -/
theorem ret_bind {α β : Type} (a : α) (f : α → M β) : M.bind (M.ret a) f = f a := rfl
theorem bad_bind {α β : Type} (f : α → M β) : M.bind (M.bad : M α) f = M.bad := rfl
theorem fail_bind {α β : Type} (c : Str) (f : α → M β) : M.bind (M.fail c : M α) f = M.fail c := rfl
theorem opt_s {α : Type} (a : α) : M.opt (some a) = M.ret a := rfl
theorem opt_n {α : Type} : (M.opt none : M α) = M.bad := rfl
theorem ret_app {α : Type} (a : α) (s : S) : M.ret a s = .ok a s := rfl
theorem fail_app {α : Type} (c : Str) (s : S) : (M.fail c : M α) s = .err c s := rfl
theorem bad_app {α : Type} (s : S) : (M.bad : M α) s = .bad := rfl
theorem out_ok {α : Type} (a : α) (s : S) (f : α → S → Out) : (Res.ok a s).out f = f a s := rfl
theorem out_err {α : Type} (c : Str) (s : S) (f : α → S → Out) : (Res.err c s).out f = .err c s := rfl
theorem then_next (Γ : Env) (s : S) (f : Env → S → Out) : (Out.next Γ s).andThen f = f Γ s := rfl
theorem then_ret (d : D) (s : S) (f : Env → S → Out) : (Out.ret d s).andThen f = .ret d s := rfl
theorem then_err (c : Str) (s : S) (f : Env → S → Out) : (Out.err c s).andThen f = .err c s := rfl
theorem opt_so {α : Type} (a : α) (f : α → Out) : opt (some a) f = f a := rfl
theorem run_ret {n : Nat} {body : List MS} {ds : List D} {s s' : S} {d : D} (h : execs body (ds.map (fun d => some (.dat d)) ++ List.replicate (n - ds.length) none) s = .ret d s') : run n body ds s = .ok d s' := by
  unfold run; rw [h]
theorem ite_m {α : Type} (b : Bool) (x y : M α) (s : S) : (if b = true then x else y) s = if b = true then x s else y s := by cases b <;> rfl
theorem calm_ret {α : Type} (a : α) : M.calm (M.ret a) = M.ret a := rfl
/-- a comprehension of what answers without the store -/
theorem lcGo_pure {f : D → M (Option D)} {g : D → Option D} : ∀ (xs : List D), (∀ x, x ∈ xs → f x = M.ret (g x)) → lcGo f xs = M.ret (xs.filterMap g)
  | [], h => rfl
  | x :: xs, h => by
    simp only [lcGo]
    rw [h x List.mem_cons_self, ret_bind, lcGo_pure xs fun y hy => h y (List.mem_cons_of_mem _ hy), ret_bind]
    cases hg : g x <;> simp [hg]

/-- pointwise -/
inductive All2 {α β : Type} (R : α → β → Prop) : List α → List β → Prop
  | nil : All2 R [] []
  | cons {a b as bs} : R a b → All2 R as bs → All2 R (a :: as) (b :: bs)
theorem All2.len {α β : Type} {R : α → β → Prop} {as : List α} {bs : List β} (h : All2 R as bs) : as.length = bs.length := by
  induction h with
  | nil => rfl
  | cons _ _ ih => simp [ih]
/-- a comprehension, with a store that is kept well -/
theorem wp_lcGo {f : D → M (Option D)} {I : S → Prop} {R : D → Option D → Prop} {er : Str → S → Prop} : ∀ (xs : List D) (s : S), I s → (∀ x, x ∈ xs → ∀ s, I s → wp (f x s) (fun o s' => I s' ∧ R x o) er) →
    wp (lcGo f xs s) (fun ys s' => I s' ∧ ∃ os, All2 R xs os ∧ ys = os.filterMap id) er
  | [], s, hI, h => ⟨hI, [], .nil, rfl⟩
  | x :: xs, s, hI, h => by
    simp only [lcGo]
    rw [wp_bind]
    refine wp_mono (h x List.mem_cons_self s hI) (fun o s1 ⟨h1, h2⟩ => ?_) fun _ _ z => z
    rw [wp_bind]
    refine wp_mono (wp_lcGo xs s1 h1 fun y hy => h y (List.mem_cons_of_mem _ hy)) (fun ys s2 ⟨h3, os, h4, h5⟩ => ?_) fun _ _ z => z
    refine ⟨h3, o :: os, .cons h2 h4, ?_⟩
    cases o <;> simp [h5]
/-- the same where nothing of the store is changed -/
theorem wp_lcPure {f : D → M (Option D)} {g : D → Option D} {er : Str → S → Prop} {ok : List D → S → Prop} : ∀ (xs : List D) (s : S), (∀ x, x ∈ xs → f x s = .ok (g x) s) → ok (xs.filterMap g) s → wp (lcGo f xs s) ok er
  | [], s, h, k => k
  | x :: xs, s, h, k => by
    simp only [lcGo]
    rw [wp_bind, h x List.mem_cons_self]
    show wp (M.bind (lcGo f xs) _ s) _ _
    rw [wp_bind]
    refine wp_lcPure xs s (fun y hy => h y (List.mem_cons_of_mem _ hy)) ?_
    cases hg : g x <;> simp [hg] at k ⊢ <;> exact k
/-- a for, by what holds ahead of each turn -/
theorem wp_for {f : D → Env → S → Out} {rt : D → S → Prop} {er : Str → S → Prop} {nx : Env → S → Prop} {I : Nat → Env → S → Prop} : ∀ (xs : List D) (k : Nat) (Γ : Env) (s : S), I k Γ s → (∀ i x Γ s, xs[i]? = some x → I (k + i) Γ s → wpO (f x Γ s) (I (k + i + 1)) rt er) →
    (∀ Γ s, I (k + xs.length) Γ s → nx Γ s) → wpO (forGo f xs Γ s) nx rt er
  | [], k, Γ, s, hI, h, hn => hn Γ s hI
  | x :: xs, k, Γ, s, hI, h, hn => by
    simp only [forGo]
    rw [wpO_then]
    refine wpO_mono (h 0 x Γ s rfl hI) (fun Γ1 s1 h1 => ?_) (fun _ _ z => z) fun _ _ z => z
    refine wp_for xs (k + 1) Γ1 s1 h1 (fun i y Γ s hy hi => ?_) fun Γ s hi => hn Γ s ?_
    · have := h (i + 1) y Γ s (by simpa using hy) (by rw [show k + (i + 1) = k + 1 + i by omega]; exact hi)
      rw [show k + (i + 1) + 1 = k + 1 + i + 1 by omega] at this
      exact this
    · rw [List.length_cons, show k + (xs.length + 1) = k + 1 + xs.length by omega]
      exact hi

/-! ### flat data -/
theorem flat_mem {xs : List D} {n : Nat} : D.flats xs n = true ↔ ∀ x, x ∈ xs → D.flat x n = true := by
  induction xs with
  | nil => simp [D.flats]
  | cons x xs ih => simp [D.flats, ih]
theorem flat_tup {xs : List D} {n : Nat} (h : D.flat (.tup xs) n = true) : n ≠ 0 ∧ ∀ x, x ∈ xs → D.flat x (n - 1) = true := by
  simp only [D.flat, Bool.and_eq_true, bne_iff_ne, ne_eq] at h
  exact ⟨h.1, flat_mem.mp h.2⟩

/-! ### the town -/
structure Town (ns : List Int) (s : S) : Prop where
  ex : ∃ c r, s = [.town c r] ∧ (r.map (·.1)).Nodup ∧ ∀ p, p ∈ r → 0 ≤ p.1 ∧ p.1 < max 1 ns.length
theorem nodup_bound : ∀ (m : Nat) (l : List Int), l.Nodup → (∀ x, x ∈ l → 0 ≤ x ∧ x < (m : Int)) → l.length ≤ m
  | 0, l, _, h => by
    cases l with
    | nil => simp
    | cons x l => have := h x List.mem_cons_self; omega
  | m + 1, l, nd, h => by
    have nd' : (l.filter (fun x => decide (x ≠ (m : Int)))).Nodup := nd.filter _
    have hb : ∀ x, x ∈ l.filter (fun x => decide (x ≠ (m : Int))) → 0 ≤ x ∧ x < (m : Int) := fun x hx => by
      rw [List.mem_filter] at hx
      have := h x hx.1
      have := of_decide_eq_true hx.2
      omega
    have ih := nodup_bound m _ nd' hb
    have : l.length ≤ (l.filter (fun x => decide (x ≠ (m : Int)))).length + 1 := by
      clear ih hb nd' h
      induction l with
      | nil => simp
      | cons x l ih =>
        rw [List.nodup_cons] at nd
        by_cases e : x = (m : Int)
        · have : l.filter (fun x => decide (x ≠ (m : Int))) = l := by
            rw [List.filter_eq_self]
            intro y hy
            refine decide_eq_true fun z => nd.1 ?_
            rw [e, ← z]; exact hy
          rw [List.filter_cons_of_neg (by simp [e]), this]
          simp
        · rw [List.filter_cons_of_pos (by simp [e])]
          have := ih nd.2
          simp only [List.length_cons]
          omega
    omega
theorem lookup_none {r : List (Int × Int)} {k : Int} (h : (r.lookup k).isSome = false) : k ∉ r.map (·.1) := by
  rw [lookup_any] at h
  intro hk
  rw [List.mem_map] at hk
  obtain ⟨p, hp, e⟩ := hk
  have : r.any (fun p => decide (p.1 = k)) = true := List.any_eq_true.mpr ⟨p, hp, decide_eq_true e⟩
  rw [h] at this
  cases this
/-- a draw gives a number below many -/
theorem draw_gives {ns : List Int} {s : S} {many : Int} (t : Town ns s) (hl : ns.length ≤ 63) (h0 : 0 < many) (h1 : many < 1073741824) :
    Gives (drawM [.scr ns, .obj 0, .int many] s) fun d s' => ∃ v : Int, d = .int v ∧ 0 ≤ v ∧ v < many ∧ Town ns s' := by
  obtain ⟨c, r, rfl, nd, hb⟩ := t
  have hlen : r.length ≤ 63 := by
    have := nodup_bound (max 1 ns.length) _ nd fun x hx => by
      rw [List.mem_map] at hx
      obtain ⟨p, hp, rfl⟩ := hx
      have := hb p hp
      omega
    rw [List.length_map] at this
    omega
  have hc : 0 < many ∧ many < 1073741824 ∧ r.length < lim := ⟨h0, h1, by unfold lim; omega⟩
  have e : drawM [.scr ns, .obj 0, .int many] [.town c r] = .ok (.int (drawN ns (c + 1) r many).1) [.town (c + 1) (drawN ns (c + 1) r many).2] := by
    simp only [drawM, List.getElem?_cons_zero, if_pos hc, List.set_cons_zero]
  rw [e]
  refine ⟨_, rfl, ?_⟩
  have hm : ∀ x : Int, 0 ≤ x % many ∧ x % many < many := fun x => ⟨Int.emod_nonneg _ (by omega), Int.emod_lt_of_pos _ h0⟩
  generalize hat : (if ns.isEmpty then (0 : Int) else (c + 1) % ns.length) = at_
  have ha : 0 ≤ at_ ∧ at_ < max 1 ns.length := by
    rw [← hat]
    cases ns with
    | nil => simp
    | cons x ns =>
      have hp : (0 : Int) < ((x :: ns).length : Int) := by rw [List.length_cons]; omega
      have g0 := Int.emod_nonneg (c + 1) (show ((x :: ns).length : Int) ≠ 0 by omega)
      have g1 := Int.emod_lt_of_pos (c + 1) hp
      have : (x :: ns).isEmpty = false := rfl
      rw [this, if_neg Bool.false_ne_true]
      omega
  have key : ∀ q, Town ns [.town (c + 1) (restsPut r at_ q)] := fun q => by
    refine ⟨c + 1, _, rfl, ?_, ?_⟩
    · unfold restsPut
      cases hs : (r.lookup at_).isSome with
      | true =>
        rw [if_pos rfl, List.map_map]
        have : ((fun x : Int × Int => x.1) ∘ fun p => if p.1 = at_ then (at_, q) else p) = fun x => x.1 := by
          funext p
          show (if p.1 = at_ then (at_, q) else p).1 = p.1
          by_cases e : p.1 = at_
          · rw [if_pos e]; exact e.symm
          · rw [if_neg e]
        rw [this]
        exact nd
      | false =>
        rw [if_neg Bool.false_ne_true, List.map_append, List.nodup_append]
        refine ⟨nd, by simp, ?_⟩
        intro a hA b hb' e
        have : b = at_ := by simpa using hb'
        subst this
        subst e
        exact lookup_none hs hA
    · intro p hp
      unfold restsPut at hp
      split at hp
      · rw [List.mem_map] at hp
        obtain ⟨y, hy, rfl⟩ := hp
        by_cases e : y.1 = at_
        · rw [if_pos e]; exact ha
        · rw [if_neg e]; exact hb y hy
      · rcases List.mem_append.mp hp with z | z
        · exact hb p z
        · have : p = (at_, q) := by simpa using z
          rw [this]; exact ha
  generalize hz : (if ns.isEmpty then (0 : Int) else ns.getD at_.toNat 0) = z
  generalize hrest : (match r.lookup at_ with | some q => q | none => z) = rest
  have hD : drawN ns (c + 1) r many = if rest ≥ 10 ^ 18 then (rest % many, restsPut r at_ (rest / many)) else
      let n1 := (rest + 104729 * (c + 1)) % 4294967291
      let n2 := n1 ^ 5 % 4294967279
      ((n2 / 64 * 69621 + n2) % 4294967231 / 8 % many, r) := by
    rw [← hrest, ← hz, ← hat]
    rfl
  by_cases hr : rest ≥ 10 ^ 18
  · rw [if_pos hr] at hD
    rw [hD]
    exact ⟨(hm _).1, (hm _).2, key _⟩
  · rw [if_neg hr] at hD
    rw [hD]
    exact ⟨(hm _).1, (hm _).2, c + 1, r, rfl, nd, hb⟩
theorem wp_draw {ns : List Int} {s : S} {many : Int} {Q : D → S → Prop} {er : Str → S → Prop} (t : Town ns s) (hl : ns.length ≤ 63) (h0 : 0 < many) (h1 : many < 1073741824) (k : ∀ (v : Int) s', 0 ≤ v → v < many → Town ns s' → Q (.int v) s') :
    wp (drawM [.scr ns, .obj 0, .int many] s) Q er :=
  wp_mono (draw_gives t hl h0 h1) (fun d s' ⟨v, e, v0, v1, t'⟩ => by rw [e]; exact k v s' v0 v1 t') fun _ _ z => z.elim
theorem begun_town (ns : List Int) : begunM [] [] = .ok (.obj 0) [.town 0 []] ∧ Town ns [.town 0 []] := ⟨rfl, 0, [], rfl, by simp, by simp⟩
/-- a range -/
theorem rangeD_nat {n : Nat} (h : n ≤ lim) : rangeD 0 n = some ((List.range n).map fun (i : Nat) => .int i) := by
  unfold rangeD
  unfold lim at *
  rw [if_pos ⟨by decide, by decide, by omega, by omega, by omega⟩]
  simp
theorem rangeD_int {v : Int} (h0 : 0 ≤ v) (h : v ≤ 1000) : rangeD 0 v = some ((List.range v.toNat).map fun (i : Nat) => .int i) := by
  have := rangeD_nat (n := v.toNat) (Nat.le_trans (show v.toNat ≤ 1000 by omega) (by decide))
  rw [show ((v.toNat : Nat) : Int) = v by omega] at this
  exact this
end Mini

end
section
namespace Mini
open PySem (Str)
def b_is_between : List MS := [.ret (.andE (.isi (.var 0) .int) (.andE (.notE (.isi (.var 0) .bool)) (.cmp2 .le .le (.var 1) (.var 0) (.var 2))))]
def m_is_between : List D → M D := run 3 b_is_between
def b_is_ascending : List MS := [.ret (.blt .all [(.lc [1, 2] (.tup [(.name 1), (.name 2)]) (.zip (.var 0) (.sl (.var 0) (some (.int 1)) none)) none (.cmp .lt (.var 1) (.var 2)))])]
def m_is_ascending : List D → M D := run 3 b_is_ascending
def b_are_messages : List MS := [.ite (.orE (.notE (.isi (.var 1) .tuple)) (.notE (.blt .all [(.lc [2] (.name 2) (.var 1) none (.call (Str.ofString "is_between") [] m_is_between [(.var 2), (.int 0), (.bin .sub (.var 0) (.int 1))]))]))) [.ret (.bl false)] [],
  .ret (.call (Str.ofString "is_ascending") [] m_is_ascending [(.var 1)])]
def m_are_messages : List D → M D := run 3 b_are_messages
def b_is_receiver : List MS := [.ite (.orE (.notE (.isi (.var 1) .tuple)) (.orE (.cmp .ne (.blt .len [(.var 1)]) (.int 2)) (.notE (.call (Str.ofString "is_between") [] m_is_between [(.sub (.var 1) (.int 0)), (.int 0), (.bin .sub (.var 0) (.int 1))])))) [.ret (.bl false)] [],
  .ret (.andE (.call (Str.ofString "are_messages") [] m_are_messages [(.var 0), (.sub (.var 1) (.int 1))]) (.cmp .notIn (.sub (.var 1) (.int 0)) (.sub (.var 1) (.int 1))))]
def m_is_receiver : List D → M D := run 2 b_is_receiver
def b_is_task : List MS := [.ite (.orE (.notE (.isi (.var 0) .tuple)) (.orE (.cmp .ne (.blt .len [(.var 0)]) (.int 2)) (.notE (.call (Str.ofString "is_between") [] m_is_between [(.sub (.var 0) (.int 0)), (.int 1), (.glob (Str.ofString "MOST") 6)])))) [.ret (.bl false)] [],
  .unp (.tup [(.name 1), (.name 2)]) (.var 0),
  .ite (.orE (.notE (.isi (.var 2) .tuple)) (.notE (.cmp2 .le .le (.int 1) (.blt .len [(.var 2)]) (.glob (Str.ofString "MOST") 6)))) [.ret (.bl false)] [],
  .ret (.blt .all [(.lc [3] (.name 3) (.var 2) none (.call (Str.ofString "is_receiver") [] m_is_receiver [(.var 1), (.var 3)]))])]
def m_is_task : List D → M D := run 4 b_is_task
def b_check_messages : List MS := [.ite (.notE (.call (Str.ofString "is_between") [] m_is_between [(.var 0), (.int 1), (.glob (Str.ofString "MOST") 6)])) [.raise (Str.ofString "InvalidMessages")] []]
def m_check_messages : List D → M D := run 1 b_check_messages
def b_is_sum : List MS := [.ret (.andE (.call (Str.ofString "are_messages") [] m_are_messages [(.var 0), (.var 1)]) (.cmp .ne (.var 1) (.tup [])))]
def m_is_sum : List D → M D := run 2 b_is_sum
def b_is_code_of : List MS := [.ret (.andE (.isi (.var 1) .tuple) (.andE (.cmp .le (.blt .len [(.var 1)]) (.glob (Str.ofString "SUMS") 8)) (.blt .all [(.lc [2] (.name 2) (.var 1) none (.call (Str.ofString "is_sum") [] m_is_sum [(.var 0), (.var 2)]))])))]
def m_is_code_of : List D → M D := run 3 b_is_code_of
def b_is_code : List MS := [.expr (.call (Str.ofString "check_messages") [] m_check_messages [(.var 0)]),
  .ret (.call (Str.ofString "is_code_of") [] m_is_code_of [(.var 0), (.var 1)])]
def m_is_code : List D → M D := run 2 b_is_code
def b_law_is : List MS := [.ret (.andE (.isi (.var 0) .bool) (.cmp .eq (.var 0) (.var 1)))]
def m_law_is : List D → M D := run 2 b_law_is
def lp_law_task_0 : List MS := [.set 7 (.call (Str.ofString "_law_draw") [] drawM [(.var 0), (.var 1), (.var 4)]),
  .set 9 (.lc [8] (.name 8) (.rng1 (.var 4)) (some (.cmp .eq (.call (Str.ofString "_law_draw") [] drawM [(.var 0), (.var 1), (.int 2)]) (.int 0))) (.var 8)),
  .app 5 (.tup [(.var 7), (.blt .tuple [(.lc [8] (.name 8) (.var 9) (some (.cmp .ne (.var 8) (.var 7))) (.var 8))])])]
def b_law_task : List MS := [.par [(4, false), (5, true)] [(.bin .add (.int 1) (.call (Str.ofString "_law_draw") [] drawM [(.var 0), (.var 1), (.var 2)])), (.lst [])],
  .forS (.name 6) (.rng1 (.bin .add (.int 1) (.call (Str.ofString "_law_draw") [] drawM [(.var 0), (.var 1), (.var 3)]))) lp_law_task_0,
  .frz 5,
  .ret (.tup [(.var 4), (.blt .tuple [(.var 5)])])]
def m_law_task : List D → M D := run 10 b_law_task
def b_law_sum : List MS := [.set 4 (.blt .tuple [(.lc [3] (.name 3) (.rng1 (.var 2)) (some (.cmp .eq (.call (Str.ofString "_law_draw") [] drawM [(.var 0), (.var 1), (.int 2)]) (.int 0))) (.var 3))]),
  .ret (.ife (.cmp .ne (.var 4) (.tup [])) (.var 4) (.tup [(.call (Str.ofString "_law_draw") [] drawM [(.var 0), (.var 1), (.var 2)])]))]
def m_law_sum : List D → M D := run 5 b_law_sum
def b_law_code : List MS := [.ret (.blt .tuple [(.lc [4] (.name 4) (.rng1 (.call (Str.ofString "_law_draw") [] drawM [(.var 0), (.var 1), (.bin .add (.var 3) (.int 1))])) none (.call (Str.ofString "_law_sum") [] m_law_sum [(.var 0), (.var 1), (.var 2)]))])]
def m_law_code : List D → M D := run 5 b_law_code
def lp_law_bounds_0 : List MS := [.ite (.notE (.call (Str.ofString "_law_is") [] m_law_is [(.call (Str.ofString "is_task") [] m_is_task [(.var 0)]), (.bl true)])) [.ret (.bl false)] []]
def lp_law_bounds_1 : List MS := [.ite (.notE (.call (Str.ofString "_law_is") [] m_law_is [(.call (Str.ofString "is_task") [] m_is_task [(.var 0)]), (.bl false)])) [.ret (.bl false)] []]
def lp_law_bounds_2 : List MS := [.ite (.notE (.call (Str.ofString "_law_is") [] m_law_is [(.call (Str.ofString "is_code") [] m_is_code [(.int 3), (.var 0)]), (.bl true)])) [.ret (.bl false)] []]
def lp_law_bounds_3 : List MS := [.ite (.notE (.call (Str.ofString "_law_is") [] m_law_is [(.call (Str.ofString "is_code") [] m_is_code [(.int 3), (.var 0)]), (.bl false)])) [.ret (.bl false)] []]
def b_law_bounds : List MS := [.forS (.name 0) (.tup [(.tup [(.int 1), (.tup [(.tup [(.int 0), (.tup [])])])]), (.tup [(.int 6), (.bin .mul (.tup [(.tup [(.int 5), (.tup [(.int 0), (.int 1), (.int 2), (.int 3), (.int 4)])])]) (.int 6))]), (.tup [(.int 2), (.tup [(.tup [(.int 0), (.tup [(.int 1)])]), (.tup [(.int 0), (.tup [(.int 1)])])])])]) lp_law_bounds_0,
  .set 1 (.lst [(.tup [(.int 0), (.tup [(.tup [(.int 0), (.tup [])])])]), (.tup [(.int 7), (.tup [(.tup [(.int 0), (.tup [])])])]), (.tup [(.int 1), (.tup [])]), (.tup [(.int 1), (.bin .mul (.tup [(.tup [(.int 0), (.tup [])])]) (.int 7))]), (.tup [(.int 2), (.tup [(.tup [(.int 0), (.tup [(.int 0)])])])]), (.tup [(.int 2), (.tup [(.tup [(.int 2), (.tup [])])])]), .non]),
  .set 1 (.bin .add (.var 1) (.lst [(.tup [(.int 2), (.tup [(.tup [(.int 0), (.tup [(.int 1), (.int 1)])])])]), (.tup [(.int 2), (.tup [(.tup [(.int 0), (.lst [(.int 1)])])])]), (.tup [(.int 2), (.tup [(.lst [(.int 0), (.tup [(.int 1)])])])]), (.lst [(.int 2), (.tup [(.tup [(.int 0), (.tup [])])])]), (.tup [(.int 2), (.tup [(.tup [(.int 0), (.tup [])])]), (.int 1)]), (.tup [(.int 2)])])),
  .set 1 (.bin .add (.var 1) (.lst [(.tup [(.int 3), (.tup [(.tup [(.int 0), (.tup [(.int 2), (.int 1)])])])]), (.tup [(.bl true), (.tup [(.tup [(.int 0), (.tup [])])])]), (.tup [(.int 2), (.tup [(.tup [(.bl false), (.tup [])])])]), (.tup [(.int 2), (.tup [(.tup [(.int 0), (.tup [(.bl true)])])])]), (.tup [(.int 1), (.tup [(.int 0), (.tup [])])]), (.int 3)])),
  .forS (.name 0) (.var 1) lp_law_bounds_1,
  .forS (.name 0) (.tup [(.tup []), (.bin .mul (.tup [(.tup [(.int 0)])]) (.int 8)), (.tup [(.tup [(.int 0), (.int 1), (.int 2)]), (.tup [(.int 0), (.int 1), (.int 2)])])]) lp_law_bounds_2,
  .set 1 (.lst [(.bin .mul (.tup [(.tup [(.int 0)])]) (.int 9)), (.tup [(.tup [])]), (.tup [(.tup [(.int 3)])]), (.tup [(.tup [(.int 1), (.int 0)])]), (.tup [(.tup [(.int 0), (.int 0)])]), (.lst [(.tup [(.int 0)])]), (.tup [(.lst [(.int 0)])]), (.tup [(.int 0)]), .non, (.tup [(.tup [(.bl true)])])]),
  .forS (.name 0) (.bin .add (.var 1) (.lst [(.tup [(.tup [(.neg (.int 1))])])])) lp_law_bounds_3,
  .ret (.bl true)]
def m_law_bounds : List D → M D := run 2 b_law_bounds
def lp_law_0 : List MS := [.ite (.notE (.call (Str.ofString "_law_is") [] m_law_is [(.call (Str.ofString "is_task") [] m_is_task [(.tup [(.var 4), (.bin .add (.bin .add (.sl (.var 5) none (some (.var 6))) (.tup [(.var 9)])) (.sl (.var 5) (some (.bin .add (.var 6) (.int 1))) none))])]), (.bl false)])) [.ret (.bl false)] []]
def lp_law_1 : List MS := [.ite (.notE (.call (Str.ofString "_law_is") [] m_law_is [(.call (Str.ofString "is_code") [] m_is_code [(.var 4), (.bin .add (.var 10) (.tup [(.var 9)]))]), (.bl false)])) [.ret (.bl false)] []]
def lp_law_2 : List MS := [.set 3 (.call (Str.ofString "_law_task") [] m_law_task [(.var 0), (.var 1), (.int 6), (.int 6)]),
  .unp (.tup [(.name 4), (.name 5)]) (.var 3),
  .ite (.orE (.notE (.call (Str.ofString "_law_is") [] m_law_is [(.call (Str.ofString "is_task") [(Str.ofString "value")] m_is_task [(.var 3)]), (.bl true)])) (.notE (.call (Str.ofString "_law_is") [] m_law_is [(.call (Str.ofString "is_task") [] m_is_task [(.lst [(.var 4), (.var 5)])]), (.bl false)]))) [.ret (.bl false)] [],
  .set 6 (.call (Str.ofString "_law_draw") [] drawM [(.var 0), (.var 1), (.blt .len [(.var 5)])]),
  .unp (.tup [(.name 7), (.name 8)]) (.sub (.var 5) (.var 6)),
  .forS (.name 9) (.tup [(.tup [(.var 7), (.bin .add (.var 8) (.tup [(.var 4)]))]), (.tup [(.var 7), (.bin .add (.var 8) (.tup [(.var 7)]))]), (.tup [(.var 4), (.var 8)]), (.tup [(.var 7)]), .non]) lp_law_0,
  .set 10 (.call (Str.ofString "_law_code") [] m_law_code [(.var 0), (.var 1), (.var 4), (.int 6)]),
  .ite (.notE (.call (Str.ofString "_law_is") [] m_law_is [(.call (Str.ofString "is_code") [(Str.ofString "messages"), (Str.ofString "value")] m_is_code [(.var 4), (.var 10)]), (.bl true)])) [.ret (.bl false)] [],
  .ite (.notE (.call (Str.ofString "_law_is") [] m_law_is [(.call (Str.ofString "is_code") [] m_is_code [(.var 4), (.blt .list [(.var 10)])]), (.bl false)])) [.ret (.bl false)] [],
  .forS (.name 9) (.tup [(.tup []), (.tup [(.var 4)]), .non, (.int 0), (.lst [(.int 0)]), (.str (Str.ofString "0")), (.tup [(.str (Str.ofString "0"))])]) lp_law_1]
def b_law : List MS := [.set 1 (.call (Str.ofString "_law_begun") [] begunM []),
  .forS (.name 2) (.rng1 (.int 5)) lp_law_2,
  .ret (.call (Str.ofString "_law_bounds") [] m_law_bounds [])]
def m_law : List D → M D := run 11 b_law
variable [KFrag]
def isBetween (d : D) (lo hi : Int) : Bool := match d with
  | .int i => decide (lo ≤ i) && decide (i ≤ hi)
  | _ => false
mutual
/-- plain, not deep, not long -/
def D.fit : D → Nat → Bool
  | .non, _ => true
  | .bl _, _ => true
  | .int _, _ => true
  | .str _, _ => true
  | .tup xs, n => n != 0 && decide (xs.length ≤ 1000) && D.fits xs (n - 1)
  | .lst xs, n => n != 0 && decide (xs.length ≤ 1000) && D.fits xs (n - 1)
  | .dic _, _ => false
  | .obj _, _ => false
  | .scr _, _ => false
def D.fits : List D → Nat → Bool
  | [], _ => true
  | x :: xs, n => D.fit x n && D.fits xs n
end
theorem fits_mem {xs : List D} {n : Nat} : D.fits xs n = true ↔ ∀ x, x ∈ xs → D.fit x n = true := by
  induction xs with
  | nil => simp [D.fits]
  | cons x xs ih => simp [D.fits, ih]
theorem fit_tup {xs : List D} {n : Nat} : D.fit (.tup xs) n = true ↔ n ≠ 0 ∧ xs.length ≤ 1000 ∧ ∀ x, x ∈ xs → D.fit x (n - 1) = true := by
  simp only [D.fit, Bool.and_eq_true, bne_iff_ne, ne_eq, decide_eq_true_eq, fits_mem, and_assoc]
theorem between_eq {d : D} {n : Nat} (hd : D.fit d n = true) (lo hi : Int) : m_is_between [d, .int lo, .int hi] = M.ret (.bl (isBetween d lo hi)) := by
  funext s
  unfold m_is_between
  rw [ret_app]
  apply run_ret
  cases d <;> simp [D.fit] at hd <;> simp [b_is_between, execs, exec, eval, evals, ret_bind, bad_bind, opt_s, opt_n, ret_app, out_ok, then_ret, Env.get, isTy, cop, isBetween]
  rename_i i
  by_cases h : lo ≤ i <;> simp [h, ret_app, out_ok, then_ret]
def asc : List Int → Bool
  | x :: y :: r => decide (x < y) && asc (y :: r)
  | _ => true
theorem bools_bl : ∀ bs : List Bool, D.bools (bs.map D.bl) = some bs
  | [] => rfl
  | b :: bs => by simp [D.bools, bools_bl bs]
theorem asc_zip : ∀ ns : List Int, (List.zipWith (fun a b => decide (a < b)) ns (ns.drop 1)).all id = asc ns
  | [] => rfl
  | [_] => rfl
  | x :: y :: r => by
    have := asc_zip (y :: r)
    simp only [List.drop_succ_cons, List.drop_zero] at this ⊢
    rw [List.zipWith_cons_cons, List.all_cons, this]
    rfl
theorem zip_bl (f : D → Option D) (hf : ∀ a b : Int, f (.tup [.int a, .int b]) = some (.bl (decide (a < b)))) : ∀ ns ms : List Int, List.filterMap f (List.zipWith (fun x y => D.tup [x, y]) (ns.map .int) (ms.map .int)) = (List.zipWith (fun a b => decide (a < b)) ns ms).map D.bl
  | [], _ => by simp
  | _ :: _, [] => by simp
  | x :: ns, y :: ms => by
    simp only [List.map_cons, List.zipWith_cons_cons, List.filterMap_cons, hf, zip_bl f hf ns ms]
theorem cut1 {α : Type} (xs : List α) : cut xs (some 1) none = xs.drop 1 := by
  have e1 : sIx xs.length 0 (some 1) = min 1 xs.length := rfl
  have e2 : sIx xs.length xs.length none = xs.length := rfl
  unfold cut
  rw [e1, e2]
  cases xs with
  | nil => rfl
  | cons x xs =>
    rw [show min 1 (x :: xs).length = 1 by rw [List.length_cons]; omega]
    exact List.take_of_length_le (by simp)
def gAsc : D → Option D
  | .tup [.int a, .int b] => some (.bl (decide (a < b)))
  | _ => none
theorem asc_eq {ns : List Int} (hl : ns.length ≤ 1000) : m_is_ascending [.tup (ns.map .int)] = M.ret (.bl (asc ns)) := by
  funext s
  unfold m_is_ascending
  rw [ret_app]
  apply run_ret
  have hlen : (List.zipWith (fun x y => D.tup [x, y]) (ns.map D.int) ((ns.map D.int).drop 1)).length ≤ lim := by
    rw [List.length_zipWith, List.length_map]
    unfold lim
    omega
  simp only [b_is_ascending, execs, exec, eval, evals, evalO, evalC, ret_bind, bad_bind, opt_s, opt_n, List.map_cons, List.map_nil, List.length_cons, List.length_nil, List.cons_append, List.nil_append, List.replicate, Nat.reduceAdd, Nat.reduceSub, Env.get, List.getElem?_cons_zero, zipD, slD, cut1, Option.map_some, D.items, if_pos hlen]
  rw [lcGo_pure (g := gAsc) _ fun x hx => ?_]
  · have e : (ns.map D.int).drop 1 = (ns.drop 1).map D.int := by rw [List.map_drop]
    rw [e, zip_bl gAsc (fun a b => rfl)]
    simp only [ret_bind, blt, bools_bl, Option.map_some, opt_s, ret_app, out_ok, then_ret, asc_zip]
  · obtain ⟨a, b, rfl⟩ : ∃ a b : Int, x = .tup [.int a, .int b] := by
      have e : (ns.map D.int).drop 1 = (ns.drop 1).map D.int := by rw [List.map_drop]
      rw [e] at hx
      obtain ⟨i, hi, ex⟩ := List.mem_iff_getElem.mp hx
      simp only [List.getElem_zipWith, List.getElem_map] at ex
      exact ⟨_, _, ex.symm⟩
    simp [bindT, bindTs, Env.wipe, Env.put, Env.get, ret_bind, opt_s, cop, ltD, D.isNon, D.alike, D.flat, deep, D.lt, calm_ret, gAsc]
def D.toI : D → Int
  | .int i => i
  | _ => 0
def areMsgs (m : Int) (d : D) : Bool := match d with
  | .tup xs => xs.all (isBetween · 0 (m - 1)) && asc (xs.map D.toI)
  | _ => false
theorem ints_of {xs : List D} {lo hi : Int} (h : xs.all (isBetween · lo hi) = true) : xs = (xs.map D.toI).map .int := by
  induction xs with
  | nil => rfl
  | cons x xs ih =>
    rw [List.all_cons, Bool.and_eq_true] at h
    have h2 := ih h.2
    cases x with
    | int i => simp only [List.map_cons, D.toI]; rw [← h2]
    | _ => exact absurd h.1 (by simp [isBetween])
theorem map_all (f : D → Bool) (xs : List D) : List.filterMap (fun x => some (D.bl (f x))) xs = (xs.map f).map D.bl := by
  induction xs with
  | nil => rfl
  | cons x xs ih => simp
theorem all_map (f : D → Bool) (xs : List D) : (xs.map f).all id = xs.all f := by
  rw [List.all_map]
  rfl

theorem msgs_eq {d : D} {n : Nat} (hd : D.fit d n = true) (m : Int) : m_are_messages [.int m, d] = M.ret (.bl (areMsgs m d)) := by
  funext s
  unfold m_are_messages
  rw [ret_app]
  apply run_ret
  cases d with
  | tup xs =>
    obtain ⟨_, hl, hx⟩ := fit_tup.mp hd
    have hlen : xs.length ≤ lim := by unfold lim; omega
    simp only [b_are_messages, execs, exec, eval, evals, evalO, evalC, ret_bind, bad_bind, opt_s, opt_n, List.map_cons, List.map_nil, List.length_cons, List.length_nil, List.cons_append, List.nil_append, List.replicate, Nat.reduceAdd, Nat.reduceSub, Env.get, List.getElem?_cons_zero, List.getElem?_cons_succ, isTy, Bool.not_true, D.items, if_pos hlen]
    rw [lcGo_pure (g := fun x => some (.bl (isBetween x 0 (m - 1)))) _ fun x hx' => ?_]
    · rw [map_all]
      simp only [ret_bind, blt, bools_bl, Option.map_some, opt_s, ret_app, out_ok, all_map]
      cases h : xs.all (isBetween · 0 (m - 1)) with
      | false => simp [ret_app, out_ok, opt_so, D.truthy, then_ret, areMsgs, h]
      | true =>
        have e := ints_of h
        have hl' : (xs.map D.toI).length ≤ 1000 := by rw [List.length_map]; exact hl
        have e2 : m_is_ascending [.tup xs] = M.ret (.bl (asc (xs.map D.toI))) := by
          conv => lhs; rw [e]
          exact asc_eq hl'
        simp only [Bool.not_true, ret_app, out_ok, opt_so, D.truthy, Bool.false_eq_true, if_false, then_next, List.getElem?_cons_zero, List.getElem?_cons_succ, ret_bind, opt_s, e2, then_ret, areMsgs, h, Bool.true_and]
    · simp [bindT, Env.wipe, Env.put, Env.get, ret_bind, opt_s, between_eq (hx x hx'), bop, calm_ret]
  | _ => simp [b_are_messages, execs, exec, eval, evals, ret_bind, bad_bind, opt_s, opt_n, ret_app, out_ok, then_ret, Env.get, isTy, opt_so, D.truthy, areMsgs] <;> simp [D.fit] at hd
def tupItems : D → List D
  | .tup xs => xs
  | _ => []
def isRecv (m : Int) (d : D) : Bool := match d with
  | .tup [w, k] => isBetween w 0 (m - 1) && (areMsgs m k && !(tupItems k).any fun y => D.eqv y w)
  | _ => false
theorem eqv_ints {xs : List D} {lo hi : Int} (h : xs.all (isBetween · lo hi) = true) : D.flats xs deep = true := by
  rw [ints_of h]
  generalize xs.map D.toI = ns
  induction ns with
  | nil => rfl
  | cons x ns ih => simpa [D.flats, D.flat] using ih
theorem recv_eq {d : D} {n : Nat} (hd : D.fit d n = true) (m : Int) : m_is_receiver [.int m, d] = M.ret (.bl (isRecv m d)) := by
  funext s
  unfold m_is_receiver
  rw [ret_app]
  apply run_ret
  cases d with
  | tup xs =>
    obtain ⟨_, hl, hx⟩ := fit_tup.mp hd
    simp only [b_is_receiver, execs, exec, eval, evals, evalO, evalC, ret_bind, bad_bind, opt_s, opt_n, List.map_cons, List.map_nil, List.length_cons, List.length_nil, List.cons_append, List.nil_append, List.replicate, Nat.reduceAdd, Nat.reduceSub, Env.get, List.getElem?_cons_zero, List.getElem?_cons_succ, isTy, Bool.not_true, blt, D.seq, Option.map_some, cop, eqD, D.flat, Bool.and_true, Bool.and_self, if_true, D.eqv]
    match xs, hx with
    | [w, k], hx =>
      have hw := hx w (by simp)
      have hk := hx k (by simp)
      simp only [List.length_cons, List.length_nil, Nat.reduceAdd]
      have e2 : (((2 : Nat) : Int) == 2) = true := rfl
      have i0 : subD (.tup [w, k]) (.int 0) = some w := rfl
      have i1 : subD (.tup [w, k]) (.int 1) = some k := rfl
      simp only [e2, Bool.not_true, ret_bind, opt_s, i0, i1, bop, between_eq hw]
      cases h1 : isBetween w 0 (m - 1) with
      | false => simp [ret_app, out_ok, opt_so, D.truthy, then_ret, isRecv, h1, ret_bind]
      | true =>
        simp only [ret_bind, Bool.not_true, ret_app, out_ok, opt_so, D.truthy, Bool.false_eq_true, if_false, then_next, opt_s, i0, i1, msgs_eq hk]
        cases h2 : areMsgs m k with
        | false => simp [ret_app, out_ok, then_ret, isRecv, h1, h2, ret_bind, opt_s, i1, msgs_eq hk]
        | true =>
          cases k with
          | tup ks =>
            have hks : ks.all (isBetween · 0 (m - 1)) = true := by
              simp only [areMsgs, Bool.and_eq_true] at h2
              exact h2.1
            have fl := eqv_ints hks
            have fw : D.flat w deep = true := by
              cases w with
              | int i => rfl
              | _ => exact absurd h1 (by simp [isBetween])
            simp [ret_bind, inD, D.seq, fl, fw, opt_s, ret_app, out_ok, then_ret, isRecv, h1, h2, tupItems, i0, i1, msgs_eq hk]
          | _ => exact absurd h2 (by simp [areMsgs])
    | [], hx => simp [ret_app, out_ok, opt_so, D.truthy, then_ret, isRecv, ret_bind, opt_s]
    | [_], hx => simp [ret_app, out_ok, opt_so, D.truthy, then_ret, isRecv, ret_bind, opt_s]
    | a :: b :: c :: r, hx =>
      have e2 : ((((a :: b :: c :: r).length : Nat) : Int) == 2) = false := by
        simp only [List.length_cons, beq_eq_false_iff_ne, ne_eq]
        omega
      simp only [e2]
      simp [ret_app, out_ok, opt_so, D.truthy, then_ret, isRecv, ret_bind, opt_s]
  | _ => simp [b_is_receiver, execs, exec, eval, evals, ret_bind, bad_bind, opt_s, opt_n, ret_app, out_ok, then_ret, Env.get, isTy, opt_so, D.truthy, isRecv] <;> simp [D.fit] at hd

def isTask (d : D) : Bool := match d with
  | .tup [m, r] => isBetween m 1 6 && (match r with | .tup rs => decide (1 ≤ rs.length) && decide (rs.length ≤ 6) && rs.all (isRecv m.toI) | _ => false)
  | _ => false
theorem task_eq {d : D} {n : Nat} (hd : D.fit d n = true) : m_is_task [d] = M.ret (.bl (isTask d)) := by
  funext s
  unfold m_is_task
  rw [ret_app]
  apply run_ret
  cases d with
  | tup xs =>
    obtain ⟨_, hl, hx⟩ := fit_tup.mp hd
    simp only [b_is_task, execs, exec, eval, evals, evalO, evalC, ret_bind, bad_bind, opt_s, opt_n, List.map_cons, List.map_nil, List.length_cons, List.length_nil, List.cons_append, List.nil_append, List.replicate, Nat.reduceAdd, Nat.reduceSub, Env.get, List.getElem?_cons_zero, List.getElem?_cons_succ, isTy, Bool.not_true, blt, D.seq, Option.map_some, cop, eqD, D.flat, Bool.and_true, Bool.and_self, if_true, D.eqv]
    match xs, hx with
    | [m, r], hx =>
      have hm := hx m (by simp)
      have hr := hx r (by simp)
      simp only [List.length_cons, List.length_nil, Nat.reduceAdd]
      have e2 : (((2 : Nat) : Int) == 2) = true := rfl
      have i0 : subD (.tup [m, r]) (.int 0) = some m := rfl
      simp only [e2, Bool.not_true, ret_bind, opt_s, i0, between_eq hm]
      cases h1 : isBetween m 1 6 with
      | false => simp [ret_app, out_ok, opt_so, D.truthy, then_ret, isTask, h1, ret_bind]
      | true =>
        simp only [ret_bind, Bool.not_true, ret_app, out_ok, opt_so, D.truthy, Bool.false_eq_true, if_false, then_next, opt_s, bindT, bindTs, Option.bind_some, Env.put, List.set_cons_zero, List.set_cons_succ, List.getElem?_cons_zero, List.getElem?_cons_succ]
        cases r with
        | tup rs =>
          obtain ⟨_, hl2, hx2⟩ := fit_tup.mp hr
          have hlen : rs.length ≤ lim := by unfold lim; omega
          simp only [ret_bind, isTy, Bool.not_true, D.seq, Option.map_some, opt_s]
          cases h2 : decide (1 ≤ (rs.length : Int)) with
          | false =>
            have : rs = [] := by
              have := of_decide_eq_false h2
              exact List.eq_nil_of_length_eq_zero (by omega)
            subst this
            simp [ret_bind, ret_app, out_ok, opt_so, D.truthy, then_ret, isTask, h1]
          | true =>
            have g1 : 1 ≤ rs.length := by have := of_decide_eq_true h2; omega
            cases h3 : decide ((rs.length : Int) ≤ 6) with
            | false =>
              have : ¬ rs.length ≤ 6 := by intro z; have := of_decide_eq_false h3; omega
              simp [ret_bind, ret_app, out_ok, opt_so, D.truthy, then_ret, isTask, h1, if_true, opt_s]
              intro _ h; exact absurd h this
            | true =>
              have g2 : rs.length ≤ 6 := by have := of_decide_eq_true h3; omega
              obtain ⟨i, rfl⟩ : ∃ i, m = .int i := by
                cases m with
                | int i => exact ⟨i, rfl⟩
                | _ => exact absurd h1 (by simp [isBetween])
              simp only [ret_bind, if_true, opt_s, Bool.not_true, ret_app, out_ok, opt_so, D.truthy, Bool.false_eq_true, if_false, then_next, D.items, if_pos hlen, List.getElem?_cons_zero, List.getElem?_cons_succ]
              rw [lcGo_pure (g := fun x => some (.bl (isRecv i x))) _ fun x hx' => ?_]
              · rw [map_all]
                simp only [ret_bind, blt, bools_bl, Option.map_some, opt_s, all_map]
                simp [ret_app, out_ok, then_ret, isTask, h1, g1, g2, D.toI]
              · simp [bindT, Env.wipe, Env.put, ret_bind, opt_s, recv_eq (hx2 x hx'), calm_ret]
        | _ => simp [ret_bind, bad_bind, ret_app, out_ok, opt_so, D.truthy, then_ret, isTy, isTask, h1] <;> simp [D.fit] at hr
    | [], hx => simp [ret_app, out_ok, opt_so, D.truthy, then_ret, isTask, ret_bind, opt_s]
    | [_], hx => simp [ret_app, out_ok, opt_so, D.truthy, then_ret, isTask, ret_bind, opt_s]
    | a :: b :: c :: r, hx =>
      have e2 : ((((a :: b :: c :: r).length : Nat) : Int) == 2) = false := by
        simp only [List.length_cons, beq_eq_false_iff_ne, ne_eq]
        omega
      simp only [e2]
      simp [ret_app, out_ok, opt_so, D.truthy, then_ret, isTask, ret_bind, opt_s]
  | _ => simp [b_is_task, execs, exec, eval, evals, ret_bind, bad_bind, opt_s, opt_n, ret_app, out_ok, then_ret, Env.get, isTy, opt_so, D.truthy, isTask] <;> simp [D.fit] at hd
def isSum (m : Int) (d : D) : Bool := areMsgs m d && !(tupItems d).isEmpty
theorem sum_eq {d : D} {n : Nat} (hd : D.fit d n = true) (m : Int) : m_is_sum [.int m, d] = M.ret (.bl (isSum m d)) := by
  funext s
  unfold m_is_sum
  rw [ret_app]
  apply run_ret
  simp only [b_is_sum, execs, exec, eval, evals, evalO, evalC, ret_bind, bad_bind, opt_s, opt_n, List.map_cons, List.map_nil, List.length_cons, List.length_nil, List.cons_append, List.nil_append, List.replicate, Nat.reduceAdd, Nat.reduceSub, Env.get, List.getElem?_cons_zero, List.getElem?_cons_succ, msgs_eq hd]
  cases h : areMsgs m d with
  | false => simp [ret_app, out_ok, then_ret, isSum, h]
  | true =>
    cases d with
    | tup ks =>
      have hks : ks.all (isBetween · 0 (m - 1)) = true := by
        simp only [areMsgs, Bool.and_eq_true] at h
        exact h.1
      have fl : D.flats ks (deep - 1) = true := by
        rw [ints_of hks]
        generalize ks.map D.toI = ns
        induction ns with
        | nil => rfl
        | cons x ns ih => simpa [D.flats, D.flat] using ih
      have e : D.eqv (.tup ks) (.tup []) = ks.isEmpty := by cases ks <;> rfl
      simp [ret_bind, cop, eqD, D.flat, fl, D.flats, e, opt_s, ret_app, out_ok, then_ret, isSum, h, tupItems, show deep ≠ 0 by decide]
    | _ => exact absurd h (by simp [areMsgs])
def isCodeOf (m : Int) (d : D) : Bool := match d with
  | .tup xs => decide (xs.length ≤ 8) && xs.all (isSum m)
  | _ => false
theorem codeOf_eq {d : D} {n : Nat} (hd : D.fit d n = true) (m : Int) : m_is_code_of [.int m, d] = M.ret (.bl (isCodeOf m d)) := by
  funext s
  unfold m_is_code_of
  rw [ret_app]
  apply run_ret
  cases d with
  | tup xs =>
    obtain ⟨_, hl, hx⟩ := fit_tup.mp hd
    have hlen : xs.length ≤ lim := by unfold lim; omega
    simp only [b_is_code_of, execs, exec, eval, evals, evalO, evalC, ret_bind, bad_bind, opt_s, opt_n, List.map_cons, List.map_nil, List.length_cons, List.length_nil, List.cons_append, List.nil_append, List.replicate, Nat.reduceAdd, Nat.reduceSub, Env.get, List.getElem?_cons_zero, List.getElem?_cons_succ, isTy, blt, D.seq, Option.map_some, cop]
    cases h3 : decide ((xs.length : Int) ≤ 8) with
    | false =>
      have : ¬ xs.length ≤ 8 := by intro z; have := of_decide_eq_false h3; omega
      simp [ret_app, out_ok, then_ret, isCodeOf]
      intro z; exact absurd z this
    | true =>
      have g : xs.length ≤ 8 := by have := of_decide_eq_true h3; omega
      simp only [ret_bind, opt_s, D.items, if_pos hlen]
      rw [lcGo_pure (g := fun x => some (.bl (isSum m x))) _ fun x hx' => ?_]
      · rw [map_all]
        simp only [ret_bind, blt, bools_bl, Option.map_some, opt_s, all_map]
        simp [ret_app, out_ok, then_ret, isCodeOf, g]
      · simp [bindT, Env.wipe, Env.put, ret_bind, opt_s, sum_eq (hx x hx'), calm_ret]
  | _ => simp [b_is_code_of, execs, exec, eval, evals, ret_bind, bad_bind, opt_s, opt_n, ret_app, out_ok, then_ret, Env.get, isTy, isCodeOf] <;> simp [D.fit] at hd
theorem code_eq {d : D} {n : Nat} (hd : D.fit d n = true) {m : Int} (h1 : 1 ≤ m) (h2 : m ≤ 6) : m_is_code [.int m, d] = M.ret (.bl (isCodeOf m d)) := by
  funext s
  unfold m_is_code
  rw [ret_app]
  apply run_ret
  have c : m_check_messages [.int m] = M.ret .non := by
    funext s
    have hb : isBetween (.int m) 1 6 = true := by simp [isBetween, h1, h2]
    simp [m_check_messages, run, b_check_messages, execs, exec, eval, evals, ret_bind, opt_s, ret_app, out_ok, opt_so, D.truthy, then_next, Env.get, between_eq (n := 1) (d := .int m) rfl, hb]
  simp [b_is_code, execs, exec, eval, evals, ret_bind, opt_s, ret_app, out_ok, then_next, then_ret, Env.get, c, codeOf_eq hd]
theorem is_eq (a b : Bool) : m_law_is [.bl a, .bl b] = M.ret (.bl (a == b)) := by
  funext s
  unfold m_law_is
  rw [ret_app]
  apply run_ret
  simp [b_law_is, execs, exec, eval, evals, ret_bind, opt_s, ret_app, out_ok, then_ret, Env.get, isTy, cop, eqD, D.flat, D.eqv]
/-! ### what the law makes -/
theorem asc_pw {ks : List Int} (h : ks.Pairwise (· < ·)) : asc ks = true := by
  induction ks with
  | nil => rfl
  | cons x ks ih =>
    cases ks with
    | nil => rfl
    | cons y r =>
      rw [List.pairwise_cons] at h
      simp only [asc, Bool.and_eq_true, decide_eq_true_eq]
      exact ⟨h.1 y List.mem_cons_self, ih h.2⟩
theorem all2_sub {xs : List D} {os : List (Option D)} (h : All2 (fun x o => o = none ∨ o = some x) xs os) : (os.filterMap id).Sublist xs := by
  induction h with
  | nil => exact List.Sublist.refl _
  | @cons a b as bs h _ ih =>
    rcases h with rfl | rfl
    · exact ih.cons _
    · exact ih.cons₂ _
/-- ascending numbers below m -/
structure Below (m : Int) (ks : List Int) : Prop where
  pw : ks.Pairwise (· < ·)
  bd : ∀ k, k ∈ ks → 0 ≤ k ∧ k < m
  len : ks.length ≤ 6
theorem Below.sub {m : Int} {ks js : List Int} (h : Below m ks) (s : js.Sublist ks) : Below m js := ⟨h.pw.sublist s, fun k hk => h.bd k (s.subset hk), Nat.le_trans s.length_le h.len⟩
theorem below_range {n : Nat} (hn : n ≤ 6) : Below n ((List.range n).map fun (i : Nat) => (i : Int)) := by
  refine ⟨?_, fun k hk => ?_, by simpa using hn⟩
  · rw [List.pairwise_map]
    exact List.pairwise_lt_range.imp fun h => by omega
  · rw [List.mem_map] at hk
    obtain ⟨i, hi, rfl⟩ := hk
    rw [List.mem_range] at hi
    omega
/-- the range's numbers, some of them: a comprehension with draws as its test -/
theorem sub_range {n : Nat} (hn : n ≤ 6) {os : List (Option D)} (h : All2 (fun x o => o = none ∨ o = some x) ((List.range n).map fun (i : Nat) => D.int i) os) : ∃ ks, os.filterMap id = ks.map D.int ∧ Below n ks := by
  have s := all2_sub h
  have e : ((List.range n).map fun (i : Nat) => D.int i) = ((List.range n).map fun (i : Nat) => (i : Int)).map D.int := by rw [List.map_map]; rfl
  rw [e] at s
  obtain ⟨ks, hk, ek⟩ := List.sublist_map_iff.mp s
  exact ⟨ks, ek, (below_range hn).sub hk⟩
structure RecvOk (m : Int) (d : D) : Prop where
  ex : ∃ w ks, d = .tup [.int w, .tup (ks.map .int)] ∧ 0 ≤ w ∧ w < m ∧ Below m ks ∧ w ∉ ks
def TaskOk (m : Int) (d : D) : Prop := 1 ≤ m ∧ m ≤ 6 ∧ ∃ rs, d = .tup [.int m, .tup rs] ∧ 1 ≤ rs.length ∧ rs.length ≤ 6 ∧ ∀ r, r ∈ rs → RecvOk m r
theorem filter_lc (w : Int) (ks : List Int) : List.filterMap (fun x : D => if x.toI = w then none else some x) (ks.map D.int) = (ks.filter (fun k => decide (k ≠ w))).map D.int := by
  induction ks with
  | nil => rfl
  | cons k ks ih =>
    rw [List.map_cons]
    by_cases e : k = w
    · rw [List.filterMap_cons_none (by simp [D.toI, e]), ih, List.filter_cons_of_neg (by simp [e])]
    · rw [List.filterMap_cons_some (b := D.int k) (by simp [D.toI, e]), ih, List.filter_cons_of_pos (by simp [e])]
      rfl
theorem small_lim {n : Nat} (h : n ≤ 1000) : n ≤ lim := Nat.le_trans h (by decide)
theorem small_lt {n : Nat} (h : n ≤ 1000) : n < lim := Nat.lt_of_le_of_lt h (by decide)
theorem task_turn {ns : List Int} {s : S} {n : Nat} {x : D} {x6 x7 x8 x9 : Option Slot} {rs : List D} {rt : D → S → Prop} {er : Str → S → Prop} (ts : Town ns s) (hl : ns.length ≤ 63) (hn5 : n ≤ 5) (hrl : rs.length ≤ 100) (hr : ∀ r, r ∈ rs → RecvOk (1 + n) r) :
    wpO (opt (bindT (.name 6) x [some (.dat (.scr ns)), some (.dat (.obj 0)), some (.dat (.int 6)), some (.dat (.int 6)), some (.dat (.int (1 + n))), some (.own (.lst rs)), x6, x7, x8, x9]) fun Γ => execs lp_law_task_0 Γ s) (fun Γ s => Town ns s ∧ ∃ x6 x7 x8 x9 rs', Γ = [some (.dat (.scr ns)), some (.dat (.obj 0)), some (.dat (.int 6)), some (.dat (.int 6)), some (.dat (.int (1 + n))), some (.own (.lst rs')), x6, x7, x8, x9] ∧ rs'.length = rs.length + 1 ∧ ∀ r, r ∈ rs' → RecvOk (1 + n) r) rt er := by
  simp only [lp_law_task_0, wpO_some, bindT, Env.put, execs, exec, eval, evals, wpO_then, wpO_out, wp_bind, List.set_cons_zero, List.set_cons_succ, Env.get, List.getElem?_cons_zero, List.getElem?_cons_succ, opt_s, ret_app, wp_ok]
  refine wp_draw ts hl (by omega) (by omega) fun w s3 w0 w1 t3 => ?_
  have en : (1 : Int) + (n : Int) = ((n + 1 : Nat) : Int) := by omega
  simp only [wpO_next, List.set_cons_zero, List.set_cons_succ, List.getElem?_cons_zero, List.getElem?_cons_succ, opt_s, ret_app, wp_ok, en, rangeD_nat (small_lim (show n + 1 ≤ 1000 by omega)), Option.map_some, D.items, wp_bind]
  rw [if_pos (small_lim (by rw [List.length_map, List.length_range]; omega)), wp_bind]
  refine wp_mono (wp_lcGo (I := Town ns) (R := fun x o => o = none ∨ o = some x) _ s3 t3 fun y hy s ts => ?_) (fun ys s4 ⟨t4, os, h1, h2⟩ => ?_) fun _ _ z => z
  · rw [wp_calm']
    simp only [bindT, Env.wipe, Env.put, evalC, eval, evals, wp_bind, List.set_cons_zero, List.set_cons_succ, Env.get, List.getElem?_cons_zero, List.getElem?_cons_succ, opt_s, ret_app, wp_ok]
    refine wp_draw ts hl (by decide) (by decide) fun b s5 b0 b1 t5 => ?_
    have ec : cop .eq (.int b) (.int 0) = some (b == 0) := rfl
    simp only [ec, Option.map_some, opt_s, ret_app, wp_ok, D.truthy]
    cases hb : b == 0 with
    | true => exact ⟨t5, .inr rfl⟩
    | false => exact ⟨t5, .inl rfl⟩
  · obtain ⟨ks, ek, bk⟩ := sub_range (by omega) h1
    rw [ek] at h2
    subst h2
    have hlk : (ks.map D.int).length ≤ lim := small_lim (by rw [List.length_map]; have := bk.len; omega)
    simp only [ret_app, wp_ok, wpO_next, List.set_cons_zero, List.set_cons_succ, Env.put, Env.getOwn, List.getElem?_cons_zero, List.getElem?_cons_succ, wpO_some, wpO_out, wp_bind, opt_s, D.items, if_pos hlk]
    rw [lcGo_pure (g := fun x => if x.toI = w then none else some x) _ fun y hy => ?_]
    · rw [filter_lc]
      simp only [ret_app, wp_ok, blt, D.seq, Option.map_some, opt_s, wp_bind]
      rw [if_pos (small_lt (by omega))]
      refine ⟨t4, _, _, _, _, rs ++ [_], rfl, by rw [List.length_append]; rfl, fun r hr' => ?_⟩
      rcases List.mem_append.mp hr' with z | z
      · rw [← en]; exact hr r z
      · have : r = .tup [.int w, .tup ((ks.filter (fun k => decide (k ≠ w))).map D.int)] := by simpa using z
        subst this
        refine ⟨w, _, rfl, w0, by omega, ?_, by simp⟩
        have := bk.sub (List.filter_sublist (p := fun k => decide (k ≠ w)))
        exact this
    · rw [List.mem_map] at hy
      obtain ⟨j, hj, rfl⟩ := hy
      have ec : cop .ne (.int j) (.int w) = some (!(j == w)) := rfl
      by_cases e : j = w
      · subst e
        simp [bindT, Env.wipe, Env.put, evalC, eval, ret_bind, opt_s, Env.get, ec, D.truthy, calm_ret, D.toI]
      · simp [bindT, Env.wipe, Env.put, evalC, eval, ret_bind, opt_s, Env.get, ec, D.truthy, calm_ret, D.toI, e]
theorem task_gives {ns : List Int} {s : S} (t : Town ns s) (hl : ns.length ≤ 63) : Gives (m_law_task [.scr ns, .obj 0, .int 6, .int 6] s) fun d s' => Town ns s' ∧ ∃ m, TaskOk m d := by
  unfold m_law_task
  unfold Gives
  rw [wp_run]
  simp only [b_law_task, execs, exec, eval, evals, wpO_then, wpO_out, wp_bind, wpO_opt, List.map_cons, List.map_nil, List.length_cons, List.length_nil, List.cons_append, List.nil_append, List.replicate, Nat.reduceAdd, Nat.reduceSub, Env.get, List.getElem?_cons_zero, List.getElem?_cons_succ, opt_s, ret_app, wp_ok]
  refine wp_draw t hl (by decide) (by decide) fun v s1 v0 v1 t1 => ?_
  simp only [bop, opt_s, ret_app, wp_ok]
  refine ⟨_, rfl, ?_⟩
  simp only [wpO_next, List.set_cons_zero, List.set_cons_succ, List.getElem?_cons_zero, List.getElem?_cons_succ, opt_s, ret_app, wp_ok, Env.put, if_true, Bool.false_eq_true, if_false]
  refine wp_draw t1 hl (by decide) (by decide) fun u s2 u0 u1 t2 => ?_
  obtain ⟨n, rfl⟩ : ∃ n : Nat, v = (n : Int) := ⟨v.toNat, by omega⟩
  obtain ⟨k, rfl⟩ : ∃ k : Nat, u = (k : Int) := ⟨u.toNat, by omega⟩
  have hk5 : k ≤ 5 := by omega
  have hn5 : n ≤ 5 := by omega
  have eu : (1 : Int) + (k : Int) = ((k + 1 : Nat) : Int) := by omega
  simp only [bop, opt_s, ret_app, wp_ok, eu, rangeD_nat (small_lim (show k + 1 ≤ 1000 by omega)), Option.map_some]
  refine ⟨_, rfl, ?_⟩
  refine wp_for (I := fun i Γ s => Town ns s ∧ ∃ x6 x7 x8 x9 rs, Γ = [some (.dat (.scr ns)), some (.dat (.obj 0)), some (.dat (.int 6)), some (.dat (.int 6)), some (.dat (.int (1 + n))), some (.own (.lst rs)), x6, x7, x8, x9] ∧ rs.length = i ∧ ∀ r, r ∈ rs → RecvOk (1 + n) r)
    _ 0 _ _ ⟨t2, _, _, _, _, [], rfl, rfl, by simp⟩ ?_ ?_
  · rintro i x Γ s hx ⟨ts, x6, x7, x8, x9, rs, rfl, hrl, hr⟩
    have hi : i < k + 1 := by
      have := (List.getElem?_eq_some_iff.mp hx).1
      rw [List.length_map, List.length_range] at this
      exact this
    refine wpO_mono (task_turn ts hl hn5 (by omega) hr) (fun Γ s ⟨t, x6, x7, x8, x9, rs', e, h1, h2⟩ => ⟨t, x6, x7, x8, x9, rs', e, by omega, h2⟩) (fun _ _ z => z) fun _ _ z => z
  · rintro Γ s ⟨ts, x6, x7, x8, x9, rs, rfl, hrl, hr⟩
    simp only [wpO_next, Env.frz, List.set_cons_zero, List.set_cons_succ, List.getElem?_cons_zero, List.getElem?_cons_succ, opt_s, ret_app, wp_ok, wpO_ret, Env.get, blt, D.seq, Option.map_some]
    refine ⟨ts, 1 + n, by omega, by omega, rs, rfl, ?_, ?_, hr⟩
    · rw [hrl, List.length_map, List.length_range]; omega
    · rw [hrl, List.length_map, List.length_range]; omega
/-! ### sums and codes -/
def SumOk (m : Int) (d : D) : Prop := ∃ ks, d = .tup (ks.map .int) ∧ Below m ks ∧ ks ≠ []
theorem flats_ints (n : Nat) (ks : List Int) : D.flats (ks.map D.int) n = true := by
  induction ks with
  | nil => rfl
  | cons k ks ih => simpa [D.flats, D.flat] using ih
theorem ne_empty (ks : List Int) : cop .ne (.tup (ks.map D.int)) (.tup []) = some (!ks.isEmpty) := by
  have e : D.eqv (.tup (ks.map D.int)) (.tup []) = ks.isEmpty := by cases ks <;> rfl
  simp [cop, eqD, D.flat, flats_ints, D.flats, e, show deep ≠ 0 by decide]
theorem all2_some {P : D → Prop} {xs : List D} {os : List (Option D)} (h : All2 (fun _ o => ∃ d, o = some d ∧ P d) xs os) : (os.filterMap id).length = xs.length ∧ ∀ d, d ∈ os.filterMap id → P d := by
  induction h with
  | nil => exact ⟨rfl, by simp⟩
  | @cons a b as bs h _ ih =>
    obtain ⟨d, rfl, hd⟩ := h
    refine ⟨by simpa using ih.1, fun x hx => ?_⟩
    have hx : x ∈ d :: bs.filterMap id := hx
    rcases List.mem_cons.mp hx with rfl | hx
    · exact hd
    · exact ih.2 x hx
theorem sum_gives {ns : List Int} {s : S} {n : Int} (t : Town ns s) (hl : ns.length ≤ 63) (h1 : 1 ≤ n) (hn : n ≤ 6) : Gives (m_law_sum [.scr ns, .obj 0, .int n] s) fun d s' => Town ns s' ∧ SumOk n d := by
  unfold m_law_sum
  unfold Gives
  rw [wp_run]
  simp only [b_law_sum, execs, exec, eval, evals, wpO_then, wpO_out, wp_bind, List.map_cons, List.map_nil, List.length_cons, List.length_nil, List.cons_append, List.nil_append, List.replicate, Nat.reduceAdd, Nat.reduceSub, Env.get, List.getElem?_cons_zero, List.getElem?_cons_succ, opt_s, ret_app, wp_ok, rangeD_int (show 0 ≤ n by omega) (show n ≤ 1000 by omega), Option.map_some, D.items]
  rw [if_pos (small_lim (by rw [List.length_map, List.length_range]; omega)), wp_bind]
  refine wp_mono (wp_lcGo (I := Town ns) (R := fun x o => o = none ∨ o = some x) _ s t fun y hy s ts => ?_) (fun ys s4 ⟨t4, os, h1', h2⟩ => ?_) fun _ _ z => z
  · rw [wp_calm']
    simp only [bindT, Env.wipe, Env.put, evalC, eval, evals, wp_bind, List.set_cons_zero, List.set_cons_succ, Env.get, List.getElem?_cons_zero, List.getElem?_cons_succ, opt_s, ret_app, wp_ok]
    refine wp_draw ts hl (by decide) (by decide) fun b s5 b0 b1 t5 => ?_
    have ec : cop .eq (.int b) (.int 0) = some (b == 0) := rfl
    simp only [ec, Option.map_some, opt_s, ret_app, wp_ok, D.truthy]
    cases hb : b == 0 with
    | true => exact ⟨t5, .inr rfl⟩
    | false => exact ⟨t5, .inl rfl⟩
  · obtain ⟨ks, ek, bk⟩ := sub_range (n := n.toNat) (by omega) h1'
    rw [show ((n.toNat : Nat) : Int) = n by omega] at bk
    rw [ek] at h2
    subst h2
    simp only [ret_app, wp_ok, blt, D.seq, Option.map_some, opt_s, wpO_next, Env.put, List.set_cons_zero, List.set_cons_succ, List.getElem?_cons_zero, List.getElem?_cons_succ, ne_empty, D.truthy]
    cases he : ks.isEmpty with
    | false =>
      simp only [Bool.not_false, if_true, ret_app, opt_s, wp_ok, wpO_ret, List.getElem?_cons_zero, List.getElem?_cons_succ]
      exact ⟨t4, ks, rfl, bk, fun e => by rw [e] at he; cases he⟩
    | true =>
      simp only [Bool.not_true, Bool.false_eq_true, if_false, wp_bind, ret_app, opt_s, wp_ok, List.getElem?_cons_zero, List.getElem?_cons_succ]
      refine wp_draw t4 hl (by omega) (by omega) fun b s5 b0 b1 t5 => ?_
      refine ⟨t5, [b], rfl, ⟨by simp, fun k hk => ?_, by simp⟩, by simp⟩
      have : k = b := by simpa using hk
      subst this
      exact ⟨b0, b1⟩
theorem code_gives {ns : List Int} {s : S} {n : Int} (t : Town ns s) (hl : ns.length ≤ 63) (h1 : 1 ≤ n) (hn : n ≤ 6) : Gives (m_law_code [.scr ns, .obj 0, .int n, .int 6] s) fun d s' => Town ns s' ∧ ∃ cs, d = .tup cs ∧ cs.length ≤ 6 ∧ ∀ c, c ∈ cs → SumOk n c := by
  unfold m_law_code
  unfold Gives
  rw [wp_run]
  simp only [b_law_code, execs, exec, eval, evals, wpO_then, wpO_out, wp_bind, List.map_cons, List.map_nil, List.length_cons, List.length_nil, List.cons_append, List.nil_append, List.replicate, Nat.reduceAdd, Nat.reduceSub, Env.get, List.getElem?_cons_zero, List.getElem?_cons_succ, opt_s, ret_app, wp_ok, bop, Int.reduceAdd]
  refine wp_draw t hl (by decide) (by decide) fun v s1 v0 v1 t1 => ?_
  simp only [rangeD_int v0 (show v ≤ 1000 by omega), Option.map_some, opt_s, ret_app, wp_ok, D.items]
  rw [if_pos (small_lim (by rw [List.length_map, List.length_range]; omega)), wp_bind]
  refine wp_mono (wp_lcGo (I := Town ns) (R := fun _ o => ∃ d, o = some d ∧ SumOk n d) _ s1 t1 fun y hy s ts => ?_) (fun ys s4 ⟨t4, os, h1', h2⟩ => ?_) fun _ _ z => z
  · rw [wp_calm']
    simp only [bindT, Env.wipe, Env.put, evalC, eval, evals, wp_bind, List.set_cons_zero, List.set_cons_succ, Env.get, List.getElem?_cons_zero, List.getElem?_cons_succ, opt_s, ret_app, wp_ok, if_true]
    exact wp_mono (sum_gives ts hl h1 hn) (fun d s5 h5 => ⟨h5.1, d, rfl, h5.2⟩) fun _ _ z => z.elim
  · obtain ⟨g1, g2⟩ := all2_some h1'
    subst h2
    simp only [ret_app, wp_ok, blt, D.seq, Option.map_some, opt_s, wpO_ret]
    refine ⟨t4, _, rfl, ?_, g2⟩
    rw [g1, List.length_map, List.length_range]
    omega
/-! ### they are what they are -/
theorem fit_ints (ks : List Int) (n : Nat) (h : ks.length ≤ 1000) : D.fit (.tup (ks.map D.int)) (n + 1) = true := by
  rw [fit_tup]
  refine ⟨by omega, by rw [List.length_map]; exact h, fun x hx => ?_⟩
  rw [List.mem_map] at hx
  obtain ⟨k, _, rfl⟩ := hx
  rfl
theorem recv_fit {m : Int} {d : D} (h : RecvOk m d) (n : Nat) : D.fit d (n + 2) = true := by
  obtain ⟨w, ks, rfl, _, _, hb, _⟩ := h.ex
  rw [fit_tup]
  refine ⟨by omega, by simp, fun x hx => ?_⟩
  simp only [List.mem_cons, List.not_mem_nil, or_false] at hx
  rcases hx with rfl | rfl
  · rfl
  · exact fit_ints ks n (by have := hb.len; omega)
theorem toI_map (ks : List Int) : (ks.map D.int).map D.toI = ks := by
  rw [List.map_map]
  conv => rhs; rw [← List.map_id ks]
  rfl
theorem msgs_true {m : Int} {ks : List Int} (h : Below m ks) : areMsgs m (.tup (ks.map D.int)) = true := by
  simp only [areMsgs, Bool.and_eq_true, toI_map, asc_pw h.pw, and_true]
  rw [List.all_eq_true]
  intro x hx
  rw [List.mem_map] at hx
  obtain ⟨k, hk, rfl⟩ := hx
  have := h.bd k hk
  simp only [isBetween, Bool.and_eq_true, decide_eq_true_eq]
  omega
theorem any_ints (w : Int) (ks : List Int) : ((ks.map D.int).any fun y => D.eqv y (.int w)) = decide (w ∈ ks) := by
  induction ks with
  | nil => rfl
  | cons k ks ih =>
    rw [List.map_cons, List.any_cons, ih]
    have e : D.eqv (.int k) (.int w) = decide (k = w) := by
      show (k == w) = _
      by_cases h : k = w <;> simp [h]
    rw [e]
    by_cases h : k = w
    · simp [h]
    · have h' : ¬ w = k := fun z => h z.symm
      simp [h, h']
theorem recv_true {m : Int} {d : D} (h : RecvOk m d) : isRecv m d = true := by
  obtain ⟨w, ks, rfl, w0, w1, hb, hw⟩ := h.ex
  have b : isBetween (.int w) 0 (m - 1) = true := by
    simp only [isBetween, Bool.and_eq_true, decide_eq_true_eq]
    omega
  show (isBetween (.int w) 0 (m - 1) && (areMsgs m (.tup (ks.map D.int)) && !((ks.map D.int).any fun y => D.eqv y (.int w)))) = true
  rw [b, msgs_true hb, any_ints]
  simp [hw]
theorem fit_mono : ∀ {d : D} {n : Nat}, D.fit d n = true → True := fun _ => trivial
theorem task_true {m : Int} {d : D} (h : TaskOk m d) : isTask d = true ∧ D.fit d 4 = true := by
  obtain ⟨m1, m6, rs, rfl, l1, l6, hr⟩ := h
  constructor
  · have b : isBetween (.int m) 1 6 = true := by simp [isBetween, m1, m6]
    have a : rs.all (isRecv m) = true := List.all_eq_true.mpr fun r hr' => recv_true (hr r hr')
    simp [isTask, b, l1, l6, D.toI, List.all_eq_true.mp a]
    intro r hr'
    exact recv_true (hr r hr')
  · rw [fit_tup]
    refine ⟨by omega, by simp, fun x hx => ?_⟩
    simp only [List.mem_cons, List.not_mem_nil, or_false] at hx
    rcases hx with rfl | rfl
    · rfl
    · rw [fit_tup]
      exact ⟨by omega, by omega, fun r hr' => recv_fit (hr r hr') 0⟩
theorem sum_true {m : Int} {d : D} (h : SumOk m d) : isSum m d = true ∧ D.fit d 2 = true := by
  obtain ⟨ks, rfl, hb, hn⟩ := h
  refine ⟨?_, fit_ints ks 1 (by have := hb.len; omega)⟩
  simp only [isSum, msgs_true hb, tupItems, Bool.true_and]
  cases ks with
  | nil => exact absurd rfl hn
  | cons => rfl
theorem cut_len {α : Type} (xs : List α) (a b : Option Int) : (cut xs a b).length ≤ xs.length := by
  unfold cut
  rw [List.length_take, List.length_drop]
  omega
theorem cut_mem {α : Type} {xs : List α} {a b : Option Int} {x : α} (h : x ∈ cut xs a b) : x ∈ xs := List.mem_of_mem_drop (List.mem_of_mem_take h)
theorem bounds_eq : m_law_bounds [] = M.ret (.bl true) := by
  funext s
  kernel_rfl
theorem odd_turn {m v : Int} {rs : List D} {odd : D} {x0 x1 x2 x3 x7 x8 x10 : Option Slot} (hr : ∀ r, r ∈ rs → RecvOk m r) (l6 : rs.length ≤ 6) (hf : D.fit odd 3 = true) (ho : isRecv m odd = false) (s : S) :
    execs lp_law_0 [x0, x1, x2, x3, some (.dat (.int m)), some (.dat (.tup rs)), some (.dat (.int v)), x7, x8, some (.dat odd), x10] s = .next [x0, x1, x2, x3, some (.dat (.int m)), some (.dat (.tup rs)), some (.dat (.int v)), x7, x8, some (.dat odd), x10] s := by
  have la := cut_len rs none (some v)
  have lb := cut_len rs (some (v + 1)) none
  have e1 : bop .add (.tup (cut rs none (some v))) (.tup [odd]) = some (.tup (cut rs none (some v) ++ [odd])) := by
    show (if (cut rs none (some v)).length + [odd].length ≤ lim then _ else _) = _
    rw [if_pos (small_lim (by simp; omega))]
  have e2 : bop .add (.tup (cut rs none (some v) ++ [odd])) (.tup (cut rs (some (v + 1)) none)) = some (.tup (cut rs none (some v) ++ [odd] ++ cut rs (some (v + 1)) none)) := by
    show (if (cut rs none (some v) ++ [odd]).length + (cut rs (some (v + 1)) none).length ≤ lim then _ else _) = _
    rw [if_pos (small_lim (by simp; omega))]
  have e3 : bop .add (.int v) (.int 1) = some (.int (v + 1)) := rfl
  have s1 : slD (.tup rs) none (some v) = some (.tup (cut rs none (some v))) := rfl
  have s2 : slD (.tup rs) (some (v + 1)) none = some (.tup (cut rs (some (v + 1)) none)) := rfl
  have ft : D.fit (.tup [.int m, .tup (cut rs none (some v) ++ [odd] ++ cut rs (some (v + 1)) none)]) 5 = true := by
    rw [fit_tup]
    refine ⟨by omega, by simp, fun x hx => ?_⟩
    simp only [List.mem_cons, List.not_mem_nil, or_false] at hx
    rcases hx with rfl | rfl
    · rfl
    · rw [fit_tup]
      refine ⟨by omega, by simp; omega, fun y hy => ?_⟩
      rcases List.mem_append.mp hy with z | z
      · rcases List.mem_append.mp z with z | z
        · exact recv_fit (hr y (cut_mem z)) 1
        · have : y = odd := by simpa using z
          rw [this]; exact hf
      · exact recv_fit (hr y (cut_mem z)) 1
  have it : isTask (.tup [.int m, .tup (cut rs none (some v) ++ [odd] ++ cut rs (some (v + 1)) none)]) = false := by
    have ha : (cut rs none (some v) ++ [odd] ++ cut rs (some (v + 1)) none).all (isRecv m) = false := by
      rw [List.all_append, List.all_append]
      simp [ho]
    show (isBetween (.int m) 1 6 && (decide _ && decide _ && (cut rs none (some v) ++ [odd] ++ cut rs (some (v + 1)) none).all (isRecv m))) = false
    rw [ha]
    simp
  have te := task_eq ft
  rw [it] at te
  simp only [lp_law_0, execs, exec, eval, evals, evalO, ret_bind, opt_s, List.getElem?_cons_zero, List.getElem?_cons_succ, Env.get, e3, s1, s2, e1, e2, te, is_eq]
  rfl
theorem list_task (a b : D) : m_is_task [.lst [a, b]] = M.ret (.bl false) := by
  funext s
  simp [m_is_task, run, b_is_task, execs, exec, eval, evals, ret_bind, opt_s, ret_app, out_ok, opt_so, D.truthy, then_ret, Env.get, isTy]
theorem list_code {m : Int} (cs : List D) (h1 : 1 ≤ m) (h2 : m ≤ 6) : m_is_code [.int m, .lst cs] = M.ret (.bl false) := by
  funext s
  unfold m_is_code
  rw [ret_app]
  apply run_ret
  have c : m_check_messages [.int m] = M.ret .non := by
    funext s
    have hb : isBetween (.int m) 1 6 = true := by simp [isBetween, h1, h2]
    simp [m_check_messages, run, b_check_messages, execs, exec, eval, evals, ret_bind, opt_s, ret_app, out_ok, opt_so, D.truthy, then_next, Env.get, between_eq (n := 1) (d := .int m) rfl, hb]
  have c2 : m_is_code_of [.int m, .lst cs] = M.ret (.bl false) := by
    funext s
    simp [m_is_code_of, run, b_is_code_of, execs, exec, eval, evals, ret_bind, opt_s, ret_app, out_ok, opt_so, D.truthy, then_ret, Env.get, isTy]
  simp [b_is_code, execs, exec, eval, evals, ret_bind, opt_s, ret_app, out_ok, then_next, then_ret, Env.get, c, c2]
theorem code_turn {m : Int} {cs : List D} {odd : D} {x0 x1 x2 x3 x5 x6 x7 x8 : Option Slot} (h1 : 1 ≤ m) (h2 : m ≤ 6) (hc : ∀ c, c ∈ cs → SumOk m c) (l6 : cs.length ≤ 6) (hf : D.fit odd 2 = true) (ho : isSum m odd = false) (s : S) :
    execs lp_law_1 [x0, x1, x2, x3, some (.dat (.int m)), x5, x6, x7, x8, some (.dat odd), some (.dat (.tup cs))] s = .next [x0, x1, x2, x3, some (.dat (.int m)), x5, x6, x7, x8, some (.dat odd), some (.dat (.tup cs))] s := by
  have e1 : bop .add (.tup cs) (.tup [odd]) = some (.tup (cs ++ [odd])) := by
    show (if cs.length + [odd].length ≤ lim then _ else _) = _
    rw [if_pos (small_lim (by simp; omega))]
  have ft : D.fit (.tup (cs ++ [odd])) 3 = true := by
    rw [fit_tup]
    refine ⟨by omega, by simp; omega, fun x hx => ?_⟩
    rcases List.mem_append.mp hx with z | z
    · exact (sum_true (hc x z)).2
    · have : x = odd := by simpa using z
      rw [this]; exact hf
  have it : isCodeOf m (.tup (cs ++ [odd])) = false := by
    show (decide _ && (cs ++ [odd]).all (isSum m)) = false
    rw [List.all_append]
    simp [ho]
  have te := code_eq ft h1 h2
  rw [it] at te
  simp only [lp_law_1, execs, exec, eval, evals, evalO, ret_bind, opt_s, List.getElem?_cons_zero, List.getElem?_cons_succ, Env.get, e1, te, is_eq]
  rfl
theorem code_true {m : Int} {cs : List D} (hc : ∀ c, c ∈ cs → SumOk m c) (l6 : cs.length ≤ 6) : isCodeOf m (.tup cs) = true ∧ D.fit (.tup cs) 3 = true := by
  constructor
  · show (decide _ && cs.all (isSum m)) = true
    have : cs.all (isSum m) = true := List.all_eq_true.mpr fun c h => (sum_true (hc c h)).1
    rw [this]
    simp
    omega
  · rw [fit_tup]
    exact ⟨by omega, by omega, fun c h => (sum_true (hc c h)).2⟩
/-- the odd receivers -/
theorem odd1 {m w : Int} {ks : List Int} (x : Int) (h : x = m ∨ x = w) (hb : Below m ks) : isRecv m (.tup [.int w, .tup (ks.map D.int ++ [.int x])]) = false ∧ D.fit (.tup [.int w, .tup (ks.map D.int ++ [.int x])]) 3 = true := by
  have e : ks.map D.int ++ [D.int x] = (ks ++ [x]).map D.int := by rw [List.map_append]; rfl
  rw [e]
  constructor
  · show (isBetween (.int w) 0 (m - 1) && (areMsgs m (.tup ((ks ++ [x]).map D.int)) && !(((ks ++ [x]).map D.int).any fun y => D.eqv y (.int w)))) = false
    rcases h with rfl | rfl
    · have : areMsgs x (.tup ((ks ++ [x]).map D.int)) = false := by
        have z : ((ks ++ [x]).map D.int).all (isBetween · 0 (x - 1)) = false := by
          rw [List.map_append, List.all_append]
          have : isBetween (.int x) 0 (x - 1) = false := by
            simp only [isBetween, Bool.and_eq_false_iff, decide_eq_false_iff_not]
            omega
          simp [this]
        simp only [areMsgs, z, Bool.false_and]
      rw [this]
      simp
    · rw [any_ints]
      simp
  · rw [fit_tup]
    refine ⟨by omega, by simp, fun y hy => ?_⟩
    simp only [List.mem_cons, List.not_mem_nil, or_false] at hy
    rcases hy with rfl | rfl
    · rfl
    · exact fit_ints _ 1 (by have := hb.len; simp; omega)
theorem odd2 {m : Int} {ks : List Int} (hb : Below m ks) : isRecv m (.tup [.int m, .tup (ks.map D.int)]) = false ∧ D.fit (.tup [.int m, .tup (ks.map D.int)]) 3 = true := by
  constructor
  · have : isBetween (.int m) 0 (m - 1) = false := by
      simp only [isBetween, Bool.and_eq_false_iff, decide_eq_false_iff_not]
      omega
    show (isBetween (.int m) 0 (m - 1) && _) = false
    rw [this]
    rfl
  · rw [fit_tup]
    refine ⟨by omega, by simp, fun y hy => ?_⟩
    simp only [List.mem_cons, List.not_mem_nil, or_false] at hy
    rcases hy with rfl | rfl
    · rfl
    · exact fit_ints _ 1 (by have := hb.len; omega)
theorem odd3 {m : Int} : isSum m (.tup [.int m]) = false := by
  have : isBetween (.int m) 0 (m - 1) = false := by
    simp only [isBetween, Bool.and_eq_false_iff, decide_eq_false_iff_not]
    omega
  simp [isSum, areMsgs, this]
theorem at_in {xs : List D} {v L : Int} (hL : L = (xs.length : Int)) (h0 : 0 ≤ v) (h1 : v < L) : ∃ x, subD (.tup xs) (.int v) = some x ∧ x ∈ xs := by
  have hv : v.toNat < xs.length := by omega
  refine ⟨xs[v.toNat], ?_, List.getElem_mem hv⟩
  show atI xs v = _
  unfold atI ixN
  rw [if_pos h0, if_pos (by omega)]
  show xs[v.toNat]? = _
  rw [List.getElem?_eq_getElem hv]
theorem law_turn {ns : List Int} {s : S} (ts : Town ns s) (hl : ns.length ≤ 63) {x2 x3 x4 x5 x6 x7 x8 x9 x10 : Option Slot} {rt : D → S → Prop} {er : Str → S → Prop} :
    wpO (execs lp_law_2 [some (.dat (.scr ns)), some (.dat (.obj 0)), x2, x3, x4, x5, x6, x7, x8, x9, x10] s)
      (fun Γ s' => Town ns s' ∧ ∃ x2 x3 x4 x5 x6 x7 x8 x9 x10, Γ = [some (.dat (.scr ns)), some (.dat (.obj 0)), x2, x3, x4, x5, x6, x7, x8, x9, x10]) rt er := by
  simp only [lp_law_2, execs, exec, eval, evals, wpO_then, wpO_out, wp_bind, List.set_cons_zero, List.set_cons_succ, Env.get, List.getElem?_cons_zero, List.getElem?_cons_succ, opt_s, ret_app, wp_ok]
  refine wp_mono (task_gives ts hl) (fun d s1 h1 => ?_) fun _ _ z => z.elim
  obtain ⟨t1, m, ht⟩ := h1
  obtain ⟨tt, tf⟩ := task_true ht
  have te := task_eq tf
  rw [tt] at te
  obtain ⟨m1, m6, rs, rfl, l1, l6, hr⟩ := ht
  obtain ⟨L, hL⟩ : ∃ L : Int, L = (rs.length : Int) := ⟨_, rfl⟩
  have el : blt .len [.tup rs] = some (.int L) := by rw [hL]; rfl
  simp only [wpO_next, Env.put, bindT, bindTs, Option.bind_some, wpO_some, List.set_cons_zero, List.set_cons_succ, List.getElem?_cons_zero, List.getElem?_cons_succ, opt_s, ret_app, wp_ok, ret_bind, te, list_task, is_eq, BEq.rfl, Bool.not_true, D.truthy, Bool.false_eq_true, if_false, el]
  refine wp_draw t1 hl (by omega) (by omega) fun v s2 v0 v1 t2 => ?_
  obtain ⟨r, er', hr'⟩ := at_in hL v0 v1
  obtain ⟨w, ks, rfl, w0, w1, hb, hw⟩ := (hr r hr').ex
  have a1 : bop .add (.tup (ks.map D.int)) (.tup [.int m]) = some (.tup (ks.map D.int ++ [.int m])) := by
    show (if (ks.map D.int).length + [D.int m].length ≤ lim then _ else _) = _
    rw [if_pos (small_lim (by have := hb.len; simp; omega))]
  have a2 : bop .add (.tup (ks.map D.int)) (.tup [.int w]) = some (.tup (ks.map D.int ++ [.int w])) := by
    show (if (ks.map D.int).length + [D.int w].length ≤ lim then _ else _) = _
    rw [if_pos (small_lim (by have := hb.len; simp; omega))]
  simp only [wpO_next, Env.put, bindT, bindTs, Option.bind_some, wpO_some, List.set_cons_zero, List.set_cons_succ, List.getElem?_cons_zero, List.getElem?_cons_succ, opt_s, ret_app, wp_ok, er', a1, a2, D.items, forGo, opt_so, then_next,
    odd_turn hr l6 (odd1 (w := w) m (.inl rfl) hb).2 (odd1 (w := w) m (.inl rfl) hb).1, odd_turn hr l6 (odd1 (m := m) w (.inr rfl) hb).2 (odd1 (m := m) w (.inr rfl) hb).1, odd_turn hr l6 (odd2 hb).2 (odd2 hb).1,
    odd_turn (odd := .tup [.int w]) hr l6 rfl rfl, odd_turn (odd := .non) hr l6 rfl rfl]
  refine wp_mono (code_gives t2 hl m1 m6) (fun d s3 h3 => ?_) fun _ _ z => z.elim
  obtain ⟨t3, cs, rfl, lc, hc⟩ := h3
  obtain ⟨ct, cf⟩ := code_true hc lc
  have ce := code_eq cf m1 m6
  rw [ct] at ce
  have ell : blt .list [.tup cs] = some (.lst cs) := rfl
  simp only [wpO_next, Env.put, bindT, bindTs, Option.bind_some, wpO_some, List.set_cons_zero, List.set_cons_succ, List.getElem?_cons_zero, List.getElem?_cons_succ, opt_s, ret_app, wp_ok, ret_bind, ce, list_code cs m1 m6, is_eq, ell, BEq.rfl, Bool.not_true, D.truthy, Bool.false_eq_true, if_false, D.items, forGo, opt_so, then_next,
    code_turn (odd := .tup []) m1 m6 hc lc rfl rfl, code_turn (odd := .tup [.int m]) m1 m6 hc lc rfl odd3, code_turn (odd := .non) m1 m6 hc lc rfl rfl, code_turn (odd := .int 0) m1 m6 hc lc rfl rfl, code_turn (odd := .lst [.int 0]) m1 m6 hc lc rfl rfl,
    code_turn (odd := .str (Str.ofString "0")) m1 m6 hc lc rfl rfl, code_turn (odd := .tup [.str (Str.ofString "0")]) m1 m6 hc lc rfl rfl]
  exact ⟨t3, _, _, _, _, _, _, _, _, _, rfl⟩
theorem gives_eq {r : Res D} {x : D} (h : Gives r fun d _ => d = x) : ∃ s, r = .ok x s := by
  cases r with
  | ok a s =>
    have h : a = x := h
    exact ⟨s, by rw [h]⟩
  | err c s => exact h.elim
  | bad => exact h.elim
theorem law_true (ns : List Int) (hl : ns.length ≤ 63) : ∃ s, m_law [.scr ns] [] = .ok (.bl true) s := by
  apply gives_eq
  unfold m_law Gives
  rw [wp_run]
  obtain ⟨e0, t0⟩ := begun_town ns
  simp only [b_law, execs, exec, eval, evals, wpO_then, wpO_out, wp_bind, List.map_cons, List.map_nil, List.length_cons, List.length_nil, List.cons_append, List.nil_append, List.replicate, Nat.reduceAdd, Nat.reduceSub, ret_app, wp_ok, e0, wpO_next, Env.put, List.set_cons_zero, List.set_cons_succ, rangeD_int (v := 5) (by decide) (by decide), Option.map_some, opt_s, D.items, wpO_some, Nat.zero_add]
  have hb := bounds_eq
  generalize m_law_bounds = B at hb ⊢
  refine wp_for (I := fun _ Γ s => Town ns s ∧ ∃ x2 x3 x4 x5 x6 x7 x8 x9 x10, Γ = [some (.dat (.scr ns)), some (.dat (.obj 0)), x2, x3, x4, x5, x6, x7, x8, x9, x10]) _ 0 _ _ ⟨t0, _, _, _, _, _, _, _, _, _, rfl⟩ ?_ ?_
  · rintro i x Γ s hx ⟨ts, x2, x3, x4, x5, x6, x7, x8, x9, x10, rfl⟩
    exact law_turn ts hl
  · rintro Γ s ⟨ts, x2, x3, x4, x5, x6, x7, x8, x9, x10, rfl⟩
    simp only [ret_app, wp_ok, hb, wpO_ret]

end Mini
end
section
namespace Mini
open PySem PySem.Spec L2
open PyProof.Rows hiding St
variable [KFrag]
def top (i : Nat) : Stmt := PySem.Challenge.pw_codecast_k01_not_tasks.main.body.getD i (.Pass ⟨0, 0, 0, 0⟩)
abbrev s_is_between : Stmt := top 6
abbrev s_is_ascending : Stmt := top 7
abbrev s_are_messages : Stmt := top 8
abbrev s_is_receiver : Stmt := top 9
abbrev s_is_task : Stmt := top 10
abbrev s_check_messages : Stmt := top 11
abbrev s_is_sum : Stmt := top 12
abbrev s_is_code_of : Stmt := top 13
abbrev s_is_code : Stmt := top 14
abbrev s_law_is : Stmt := top 16
abbrev s_law_draw : Stmt := top 17
abbrev s_law_begun : Stmt := top 18
abbrev s_law_task : Stmt := top 19
abbrev s_law_sum : Stmt := top 20
abbrev s_law_code : Stmt := top 21
abbrev s_law_bounds : Stmt := top 22
abbrev s_law : Stmt := top 23
def N_is_between : List Str := ["value", "low", "high"]
theorem sc_is_between : FnScope N_is_between ["value", "low", "high"] (defScope s_is_between) := ⟨rfl, rfl, rfl, by decide +kernel, rfl, by decide +kernel, by decide +kernel⟩
theorem ck_is_between : chkSs N_is_between (defScope s_is_between) b_is_between (defBody s_is_between) = true := by decide +kernel
theorem us_is_between {P : Use → Prop}  : MS.usess P b_is_between := by
  simp only [b_is_between, MS.usess, MS.uses, ME.usess, ME.uses, ME.useso, List.length_cons, List.length_nil, Nat.reduceAdd, Nat.zero_add, and_true, true_and, and_self]
def N_is_ascending : List Str := ["values", "one", "other"]
theorem sc_is_ascending : FnScope N_is_ascending ["values"] (defScope s_is_ascending) := ⟨rfl, rfl, rfl, by decide +kernel, rfl, by decide +kernel, by decide +kernel⟩
theorem ck_is_ascending : chkSs N_is_ascending (defScope s_is_ascending) b_is_ascending (defBody s_is_ascending) = true := by decide +kernel
theorem us_is_ascending {P : Use → Prop}  : MS.usess P b_is_ascending := by
  simp only [b_is_ascending, MS.usess, MS.uses, ME.usess, ME.uses, ME.useso, List.length_cons, List.length_nil, Nat.reduceAdd, Nat.zero_add, and_true, true_and, and_self]
def N_are_messages : List Str := ["messages", "value", "one"]
theorem sc_are_messages : FnScope N_are_messages ["messages", "value"] (defScope s_are_messages) := ⟨rfl, rfl, rfl, by decide +kernel, rfl, by decide +kernel, by decide +kernel⟩
theorem ck_are_messages : chkSs N_are_messages (defScope s_are_messages) b_are_messages (defBody s_are_messages) = true := by decide +kernel
theorem us_are_messages {P : Use → Prop} (h0 : P (.call (Str.ofString "is_between") [] m_is_between 3)) (h1 : P (.call (Str.ofString "is_ascending") [] m_is_ascending 1)) : MS.usess P b_are_messages := by
  simp only [b_are_messages, MS.usess, MS.uses, ME.usess, ME.uses, ME.useso, List.length_cons, List.length_nil, Nat.reduceAdd, Nat.zero_add, and_true, true_and, and_self, h0, h1]
def N_is_receiver : List Str := ["messages", "value"]
theorem sc_is_receiver : FnScope N_is_receiver ["messages", "value"] (defScope s_is_receiver) := ⟨rfl, rfl, rfl, by decide +kernel, rfl, by decide +kernel, by decide +kernel⟩
theorem ck_is_receiver : chkSs N_is_receiver (defScope s_is_receiver) b_is_receiver (defBody s_is_receiver) = true := by decide +kernel
theorem us_is_receiver {P : Use → Prop} (h0 : P (.call (Str.ofString "is_between") [] m_is_between 3)) (h1 : P (.call (Str.ofString "are_messages") [] m_are_messages 2)) : MS.usess P b_is_receiver := by
  simp only [b_is_receiver, MS.usess, MS.uses, ME.usess, ME.uses, ME.useso, List.length_cons, List.length_nil, Nat.reduceAdd, Nat.zero_add, and_true, true_and, and_self, h0, h1]
def N_is_task : List Str := ["value", "messages", "receivers", "one"]
theorem sc_is_task : FnScope N_is_task ["value"] (defScope s_is_task) := ⟨rfl, rfl, rfl, by decide +kernel, rfl, by decide +kernel, by decide +kernel⟩
theorem ck_is_task : chkSs N_is_task (defScope s_is_task) b_is_task (defBody s_is_task) = true := by decide +kernel
theorem us_is_task {P : Use → Prop} (h0 : P (.call (Str.ofString "is_between") [] m_is_between 3)) (h1 : P (.call (Str.ofString "is_receiver") [] m_is_receiver 2)) (h2 : P (.glob (Str.ofString "MOST") 6)) : MS.usess P b_is_task := by
  simp only [b_is_task, MS.usess, MS.uses, ME.usess, ME.uses, ME.useso, List.length_cons, List.length_nil, Nat.reduceAdd, Nat.zero_add, and_true, true_and, and_self, h0, h1, h2]
def N_check_messages : List Str := ["messages"]
theorem sc_check_messages : FnScope N_check_messages ["messages"] (defScope s_check_messages) := ⟨rfl, rfl, rfl, by decide +kernel, rfl, by decide +kernel, by decide +kernel⟩
theorem ck_check_messages : chkSs N_check_messages (defScope s_check_messages) b_check_messages (defBody s_check_messages) = true := by decide +kernel
theorem us_check_messages {P : Use → Prop} (h0 : P (.call (Str.ofString "is_between") [] m_is_between 3)) (h1 : P (.glob (Str.ofString "MOST") 6)) (h2 : P (.exc (Str.ofString "InvalidMessages"))) : MS.usess P b_check_messages := by
  simp only [b_check_messages, MS.usess, MS.uses, ME.usess, ME.uses, ME.useso, List.length_cons, List.length_nil, Nat.reduceAdd, Nat.zero_add, and_true, true_and, and_self, h0, h1, h2]
def N_is_sum : List Str := ["messages", "value"]
theorem sc_is_sum : FnScope N_is_sum ["messages", "value"] (defScope s_is_sum) := ⟨rfl, rfl, rfl, by decide +kernel, rfl, by decide +kernel, by decide +kernel⟩
theorem ck_is_sum : chkSs N_is_sum (defScope s_is_sum) b_is_sum (defBody s_is_sum) = true := by decide +kernel
theorem us_is_sum {P : Use → Prop} (h0 : P (.call (Str.ofString "are_messages") [] m_are_messages 2)) : MS.usess P b_is_sum := by
  simp only [b_is_sum, MS.usess, MS.uses, ME.usess, ME.uses, ME.useso, List.length_cons, List.length_nil, Nat.reduceAdd, Nat.zero_add, and_true, true_and, and_self, h0]
def N_is_code_of : List Str := ["messages", "value", "one"]
theorem sc_is_code_of : FnScope N_is_code_of ["messages", "value"] (defScope s_is_code_of) := ⟨rfl, rfl, rfl, by decide +kernel, rfl, by decide +kernel, by decide +kernel⟩
theorem ck_is_code_of : chkSs N_is_code_of (defScope s_is_code_of) b_is_code_of (defBody s_is_code_of) = true := by decide +kernel
theorem us_is_code_of {P : Use → Prop} (h0 : P (.call (Str.ofString "is_sum") [] m_is_sum 2)) (h1 : P (.glob (Str.ofString "SUMS") 8)) : MS.usess P b_is_code_of := by
  simp only [b_is_code_of, MS.usess, MS.uses, ME.usess, ME.uses, ME.useso, List.length_cons, List.length_nil, Nat.reduceAdd, Nat.zero_add, and_true, true_and, and_self, h0, h1]
def N_is_code : List Str := ["messages", "value"]
theorem sc_is_code : FnScope N_is_code ["messages", "value"] (defScope s_is_code) := ⟨rfl, rfl, rfl, by decide +kernel, rfl, by decide +kernel, by decide +kernel⟩
theorem ck_is_code : chkSs N_is_code (defScope s_is_code) b_is_code (defBody s_is_code) = true := by decide +kernel
theorem us_is_code {P : Use → Prop} (h0 : P (.call (Str.ofString "check_messages") [] m_check_messages 1)) (h1 : P (.call (Str.ofString "is_code_of") [] m_is_code_of 2)) : MS.usess P b_is_code := by
  simp only [b_is_code, MS.usess, MS.uses, ME.usess, ME.uses, ME.useso, List.length_cons, List.length_nil, Nat.reduceAdd, Nat.zero_add, and_true, true_and, and_self, h0, h1]
def N_law_is : List Str := ["_law_result", "_law_expected"]
theorem sc_law_is : FnScope N_law_is ["_law_result", "_law_expected"] (defScope s_law_is) := ⟨rfl, rfl, rfl, by decide +kernel, rfl, by decide +kernel, by decide +kernel⟩
theorem ck_law_is : chkSs N_law_is (defScope s_law_is) b_law_is (defBody s_law_is) = true := by decide +kernel
theorem us_law_is {P : Use → Prop}  : MS.usess P b_law_is := by
  simp only [b_law_is, MS.usess, MS.uses, ME.usess, ME.uses, ME.useso, List.length_cons, List.length_nil, Nat.reduceAdd, Nat.zero_add, and_true, true_and, and_self]
def N_law_task : List Str := ["_law_script", "_law_town", "_law_most", "_law_many", "_law_total", "_law_receivers", "_law_k", "_law_want", "_law_one", "_law_some"]
theorem sc_law_task : FnScope N_law_task ["_law_script", "_law_town", "_law_most", "_law_many"] (defScope s_law_task) := ⟨rfl, rfl, rfl, by decide +kernel, rfl, by decide +kernel, by decide +kernel⟩
theorem ck_law_task : chkSs N_law_task (defScope s_law_task) b_law_task (defBody s_law_task) = true := by decide +kernel
theorem us_law_task {P : Use → Prop} (h0 : P (.call (Str.ofString "_law_draw") [] drawM 3)) : MS.usess P b_law_task := by
  simp only [b_law_task, lp_law_task_0, MS.usess, MS.uses, ME.usess, ME.uses, ME.useso, List.length_cons, List.length_nil, Nat.reduceAdd, Nat.zero_add, and_true, true_and, and_self, h0]
def N_law_sum : List Str := ["_law_script", "_law_town", "_law_messages_here", "_law_one", "_law_found"]
theorem sc_law_sum : FnScope N_law_sum ["_law_script", "_law_town", "_law_messages_here"] (defScope s_law_sum) := ⟨rfl, rfl, rfl, by decide +kernel, rfl, by decide +kernel, by decide +kernel⟩
theorem ck_law_sum : chkSs N_law_sum (defScope s_law_sum) b_law_sum (defBody s_law_sum) = true := by decide +kernel
theorem us_law_sum {P : Use → Prop} (h0 : P (.call (Str.ofString "_law_draw") [] drawM 3)) : MS.usess P b_law_sum := by
  simp only [b_law_sum, MS.usess, MS.uses, ME.usess, ME.uses, ME.useso, List.length_cons, List.length_nil, Nat.reduceAdd, Nat.zero_add, and_true, true_and, and_self, h0]
def N_law_code : List Str := ["_law_script", "_law_town", "_law_messages_here", "_law_most", "_law_k"]
theorem sc_law_code : FnScope N_law_code ["_law_script", "_law_town", "_law_messages_here", "_law_most"] (defScope s_law_code) := ⟨rfl, rfl, rfl, by decide +kernel, rfl, by decide +kernel, by decide +kernel⟩
theorem ck_law_code : chkSs N_law_code (defScope s_law_code) b_law_code (defBody s_law_code) = true := by decide +kernel
theorem us_law_code {P : Use → Prop} (h0 : P (.call (Str.ofString "_law_draw") [] drawM 3)) (h1 : P (.call (Str.ofString "_law_sum") [] m_law_sum 3)) : MS.usess P b_law_code := by
  simp only [b_law_code, MS.usess, MS.uses, ME.usess, ME.uses, ME.useso, List.length_cons, List.length_nil, Nat.reduceAdd, Nat.zero_add, and_true, true_and, and_self, h0, h1]
def N_law_bounds : List Str := ["_law_value_here", "_law_odds"]
theorem sc_law_bounds : FnScope N_law_bounds [] (defScope s_law_bounds) := ⟨rfl, rfl, rfl, by decide +kernel, rfl, by decide +kernel, by decide +kernel⟩
theorem ck_law_bounds : chkSs N_law_bounds (defScope s_law_bounds) b_law_bounds (defBody s_law_bounds) = true := by decide +kernel
theorem us_law_bounds {P : Use → Prop} (h0 : P (.call (Str.ofString "_law_is") [] m_law_is 2)) (h1 : P (.call (Str.ofString "is_task") [] m_is_task 1)) (h2 : P (.call (Str.ofString "is_code") [] m_is_code 2)) : MS.usess P b_law_bounds := by
  simp only [b_law_bounds, lp_law_bounds_0, lp_law_bounds_1, lp_law_bounds_2, lp_law_bounds_3, MS.usess, MS.uses, ME.usess, ME.uses, ME.useso, List.length_cons, List.length_nil, Nat.reduceAdd, Nat.zero_add, and_true, true_and, and_self, h0, h1, h2]
def N_law : List Str := ["_law_script", "_law_town", "_law_k", "_law_task_here", "_law_messages_here", "_law_receivers", "_law_at", "_law_want", "_law_known", "_law_odd", "_law_code_here"]
theorem sc_law : FnScope N_law ["_law_script"] (defScope s_law) := ⟨rfl, rfl, rfl, by decide +kernel, rfl, by decide +kernel, by decide +kernel⟩
theorem ck_law : chkSs N_law (defScope s_law) b_law (defBody s_law) = true := by decide +kernel
theorem us_law {P : Use → Prop} (h0 : P (.call (Str.ofString "_law_begun") [] begunM 0)) (h1 : P (.call (Str.ofString "_law_bounds") [] m_law_bounds 0)) (h2 : P (.call (Str.ofString "_law_is") [] m_law_is 2)) (h3 : P (.call (Str.ofString "is_task") [] m_is_task 1)) (h4 : P (.call (Str.ofString "is_code") [] m_is_code 2)) (h5 : P (.call (Str.ofString "_law_task") [] m_law_task 4)) (h6 : P (.call (Str.ofString "is_task") [(Str.ofString "value")] m_is_task 1)) (h7 : P (.call (Str.ofString "_law_draw") [] drawM 3)) (h8 : P (.call (Str.ofString "_law_code") [] m_law_code 4)) (h9 : P (.call (Str.ofString "is_code") [(Str.ofString "messages"), (Str.ofString "value")] m_is_code 2)) : MS.usess P b_law := by
  simp only [b_law, lp_law_0, lp_law_1, lp_law_2, MS.usess, MS.uses, ME.usess, ME.uses, ME.useso, List.length_cons, List.length_nil, Nat.reduceAdd, Nat.zero_add, and_true, true_and, and_self, h0, h1, h2, h3, h4, h5, h6, h7, h8, h9]
section
variable {P : Program} {w : World} {K : PySem.W.Frag} {mg : Str → Option Value} {base : Heap}
theorem scDraw : FnScope ["_law_script", "_law_town", "_law_many", "_law_at", "_law_rest", "_law_number"] ["_law_script", "_law_town", "_law_many"] (defScope s_law_draw) := ⟨rfl, rfl, rfl, by decide +kernel, rfl, by decide +kernel, by decide +kernel⟩
theorem scBegun : FnScope [] [] (defScope s_law_begun) := ⟨rfl, rfl, rfl, by decide +kernel, rfl, by decide +kernel, by decide +kernel⟩
theorem ok_begun {f : Addr} {fd : FuncData} (F : Fun K "_law_begun" "_law_begun" s_law_begun f fd) : FnOk P w K mg base (L2.CX P w) 1 f fd [] (spM mg 0 begunM) := by
  refine F.okX scBegun (fun vs H Q E h => h.1) fun cdv A outer s H vs Q E hr h => ?_
  obtain ⟨hlen, L, s', F', ds, w', dv, hw⟩ := h
  obtain rfl : vs = [] := List.eq_nil_of_length_eq_zero hlen
  obtain rfl : ds = [] := List.eq_nil_of_length_eq_zero dv.len
  refine ⟨_, pss_one (ps_ret (pe_disp (pps_cons pe_str pe_int (pps_cons pe_str pe_dnewK pps_nil)) (by rfl) (by rfl) (fun z => by cases z) (by decide))), ?_⟩
  intro p hp q hq
  have hpq : p ≠ q := fun e => by
    subst e
    rw [upd_same] at hq
    cases hq
  have hq0 : H q = none := by rw [upd_ne hpq.symm] at hq; exact hq
  refine ⟨by rw [upd_ne hpq, upd_same], [(Sum.inr (Str.ofString "count"), .int 0), (Sum.inr (Str.ofString "rests"), .ref q)], rfl, (by show 2 ≤ 15; decide), ?_⟩
  have em : mergeK [] [(Sum.inr (Str.ofString "count"), V.int 0), (Sum.inr (Str.ofString "rests"), V.ref q)] = townV 0 q := by
    have n : ¬ (Sum.inr (Str.ofString "count") : Key) = Sum.inr (Str.ofString "rests") := fun e => ctr (Sum.inr.inj e)
    simp [mergeK, L2.putK, n, townV]
  rw [em]
  have hw : okAt rD Q L F' H (.obj s'.length) (s' ++ [.town 0 []]) := hw
  have nF : ∀ a o, F' a = some o → a ≠ p ∧ a ≠ q := fun a o h => ⟨ne_of_none (w'.sub a o h) hp, ne_of_none (w'.sub a o h) hq0⟩
  have nO : ∀ a, H a ≠ none → a ≠ p ∧ a ≠ q := fun a h => ⟨fun e => h (by rw [e]; exact hp), fun e => h (by rw [e]; exact hq0)⟩
  have kp : ∀ a, a ≠ p → a ≠ q → upd (upd (upd H p (.dK [])) q (.dK [])) p (.dK (townV 0 q)) a = H a := fun a h1 h2 => by rw [upd_ne h1, upd_ne h2, upd_ne h1]
  have g1 : (s' ++ [SObj.town 0 []])[s'.length]? = some (.town 0 []) := by simp
  have g2 : (L ++ [(p, [q])])[s'.length]? = some (p, [q]) := by rw [← w'.len]; simp
  have gl : ∀ (n : Nat) x, (L ++ [(p, [q])])[n]? = some x → (L[n]? = some x ∧ n < L.length) ∨ (n = L.length ∧ x = (p, [q])) := fun n x h => by
    by_cases hn : n < L.length
    · rw [List.getElem?_append_left hn] at h
      exact .inl ⟨h, hn⟩
    · rw [List.getElem?_append_right (by omega)] at h
      have : n - L.length = 0 := by
        have := (List.getElem?_eq_some_iff.mp h).1
        simp at this; omega
      rw [this] at h
      right
      refine ⟨by omega, ?_⟩
      simpa using h.symm
  have hft : ∀ a, Loc.foot (L ++ [(p, [q])]) a → Loc.foot L a ∨ a = p ∨ a = q := fun a ⟨x, hx, ha⟩ => by
    rcases List.mem_append.mp hx with z | z
    · exact .inl ⟨x, z, ha⟩
    · have : x = (p, [q]) := by simpa using z
      subst this
      right
      rcases ha with rfl | ha
      · exact .inl rfl
      · exact .inr (by simpa using ha)
  have nL : ∀ a, Loc.foot L a → a ≠ p ∧ a ≠ q := fun a h => nO a (w'.nof a h).2
  refine hw (.ref p) (L ++ [(p, [q])]) F' _ ⟨fun a o h => ?_, by simp [w'.len], fun n o a r h1 h2 => ?_, fun a h => ?_, fun n m x y h1 h2 hnm a ha hb => ?_⟩ ⟨fun _ _ h => h, fun a o h _ => ?_, fun a h => ?_, fun a xs h => ?_, fun a h1 h2 => absurd h1 h2, fun a h => ?_, fun n a r h => ⟨r, ?_⟩⟩ ⟨p, [q], rfl, g2⟩
  · obtain ⟨z1, z2⟩ := nF a o h
    rw [kp a z1 z2]
    exact w'.sub a o h
  · rcases gl n _ h2 with ⟨z, hn⟩ | ⟨rfl, z⟩
    · rw [List.getElem?_append_left (by rw [← w'.len]; exact hn)] at h1
      refine (w'.objs n o a r h1 z).keep (fun _ _ h => h) fun b hb => ?_
      obtain ⟨z1, z2⟩ := nL b ⟨(a, r), List.mem_of_getElem? z, hb⟩
      exact kp b z1 z2
    · cases z
      rw [w'.len, g1] at h1
      cases h1
      exact ⟨q, rfl, hpq.symm, upd_same, by rw [upd_ne hpq.symm, upd_same]; rfl⟩
  · rcases hft a h with z | rfl | rfl
    · obtain ⟨z1, z2⟩ := nL a z
      rw [kp a z1 z2]
      exact w'.nof a z
    · refine ⟨?_, by rw [upd_same]; simp⟩
      cases e : F' a with
      | none => rfl
      | some o => exact absurd rfl (nF a o e).1
    · refine ⟨?_, by rw [upd_ne hpq.symm, upd_same]; simp⟩
      cases e : F' a with
      | none => rfl
      | some o => exact absurd rfl (nF a o e).2
  · rcases gl n _ h1 with ⟨z1, l1⟩ | ⟨l1, z1⟩ <;> rcases gl m _ h2 with ⟨z2, l2⟩ | ⟨l2, z2⟩
    · exact w'.apart n m x y z1 z2 hnm a ha hb
    · subst z2
      obtain ⟨n1, n2⟩ := nL a ⟨x, List.mem_of_getElem? z1, ha⟩
      rcases hb with rfl | hb
      · exact n1 rfl
      · exact n2 (by simpa using hb)
    · subst z1
      obtain ⟨n1, n2⟩ := nL a ⟨y, List.mem_of_getElem? z2, hb⟩
      rcases ha with rfl | ha
      · exact n1 rfl
      · exact n2 (by simpa using ha)
    · omega
  · obtain ⟨z1, z2⟩ := nO a (by rw [h]; simp)
    rw [kp a z1 z2]; exact h
  · obtain ⟨z1, z2⟩ := nO a h
    rw [kp a z1 z2]; exact h
  · obtain ⟨z1, z2⟩ := nO a (by rw [h]; simp)
    rw [kp a z1 z2]; exact h
  · rcases hft a h with z | rfl | rfl
    · exact .inl z
    · exact .inr hp
    · exact .inr hq0
  · rw [List.getElem?_append_left (List.getElem?_eq_some_iff.mp h).1]
    exact h
theorem ok_draw {f : Addr} {fd : FuncData} (F : Fun K "_law_draw" "_law_draw" s_law_draw f fd) (hK : KFrag.k = K) (ml : mg "len" = none) : FnOk P w K mg base (L2.CX P w) 1 f fd ["_law_script", "_law_town", "_law_many"] (spM mg 3 drawM) := by
  refine F.okX scDraw (fun vs H Q E h => h.1) fun cdv A outer s H vs Q E hr h => ?_
  obtain ⟨hlen, L, s', F', ds, w', dv, hw⟩ := h
  obtain ⟨ns, n, many, rfl⟩ : ∃ ns n many, ds = [.scr ns, .obj n, .int many] := by
    unfold drawM at hw
    split at hw
    · exact ⟨_, _, _, rfl⟩
    · exact hw.elim
  have hw : wp (drawM [.scr ns, .obj n, .int many] s') _ _ := hw
  simp only [drawM] at hw
  obtain ⟨c, r, hs, hm0, hm1, hr1, hw⟩ : ∃ c r, s'[n]? = some (.town c r) ∧ 0 < many ∧ many < 1073741824 ∧ r.length < lim ∧ okAt rD Q L F' H (D.int (drawN ns (c + 1) r many).1) (s'.set n (.town (c + 1) (drawN ns (c + 1) r many).2)) := by
    cases e : s'[n]? with
    | none => rw [e] at hw; exact hw.elim
    | some o =>
      rw [e] at hw
      cases o with
      | town c r =>
        have hw : wp ((if 0 < many ∧ many < 1073741824 ∧ r.length < lim then Res.ok (D.int (drawN ns (c + 1) r many).1) (s'.set n (.town (c + 1) (drawN ns (c + 1) r many).2)) else .bad)) _ _ := hw
        split at hw
        · rename_i hc
          exact ⟨c, r, rfl, hc.1, hc.2.1, hc.2.2, hw⟩
        · exact hw.elim
      | ses _ _ _ => exact hw.elim
  obtain ⟨v1, _, rfl, ⟨a, rfl, hS⟩, v2, _, rfl, ⟨t, rr, rfl, hL⟩, v3, _, rfl, e3, e4⟩ := dv
  have e3 : v3 = .int many := e3
  subst e3
  have e4 : _ = [] := e4
  subst e4
  have hS0 : SqL K F' a (ns.map V.int) := by rw [← hK]; exact hS
  obtain ⟨b, rfl, hbt, ht, hb⟩ := w'.objs n _ t rr hs hL
  have nft := w'.nof t (foot_of hL)
  have nfb := w'.nof b (foot_of' hL (by simp))
  obtain ⟨wn, en⟩ := w'.town (c' := c + 1) (r' := (drawN ns (c + 1) r many).2) hs hL hbt
  have hu : (A.deeper (envOfC "_law_draw" (defScope s_law_draw) s.heap.objs.size f cdv)).units + 1 < cLine := hu_of hr
  have llim : r.length < sizeLine := Nat.lt_of_lt_of_le hr1 lim_le
  -- the body
  refine ⟨_, pss_cons (ps_dput hu (pv 1) pe_str (pe_op op_add (pe_dget hu (pv 1) pe_str (fun _ _ => rfl)) pe_int) rfl)
    (pss_cons (ps_set (i := 3) scDraw.nd rfl (.inl rfl) (pe_ifExp (pt_truth (pv 0) (by intro _; rfl)) (pe_op op_mod (pe_dget hu (pv 1) pe_str (fun _ _ => rfl)) (pe_callB call_len_seq (by rfl) ml PySem.boot_len (pa_cons (pv 0) pa_nil))) pe_int))
    (pss_cons (ps_set (i := 4) scDraw.nd rfl (.inl rfl) (pe_dget2 hu (pe_dget hu (pv 1) pe_str (fun _ _ => rfl)) (pv 3) (pe_ifExp (pt_truth (pv 0) (by intro _; rfl)) (pe_ix ix_list (pv 0) (pv 3) (fun _ _ => rfl)) pe_int) ⟨rfl, rfl, rfl, rfl⟩))
    (pss_cons (ps_if (pt_cmpR op_ge (pv 4) (pe_op op_pow pe_int pe_int) (nomark _))
      (pss_cons (ps_dput hu (pe_dget hu (pv 1) pe_str (fun _ _ => rfl)) (pv 3) (pe_op op_fdiv (pv 4) (pv 2)) rfl) (pss_one (ps_ret (pe_op op_mod (pv 4) (pv 2))))) pss_nil)
    (pss_cons (ps_set (i := 5) scDraw.nd rfl (.inl rfl) (pe_op op_mod (pe_op op_add (pv 4) (pe_op op_mul pe_int (pe_dget hu (pv 1) pe_str (fun _ _ => rfl)))) pe_int))
    (pss_cons (ps_set (i := 5) scDraw.nd rfl (.inl rfl) (pe_op op_mod (pe_op op_pow (pv 5) pe_int) pe_int))
    (pss_one (ps_ret (pe_op op_mod (pe_op op_fdiv (pe_op op_mod (pe_op op_add (pe_op op_mul (pe_op op_fdiv (pv 5) pe_int) pe_int) (pv 5)) pe_int) pe_int) (pv 2))))))))), ?_⟩
  have ht' : H t = some (.dK (townV c b)) := ht
  have dgc : ∀ {Hx : Hp} {c : Int}, Hx t = some (.dK (townV c b)) → DGet Hx t (.str "count") (some (.int c)) := fun {Hx c} e => by
    have z := DGet.k (k := Sum.inr (Str.ofString "count")) e
    rw [town_count] at z
    exact z
  have dgr : ∀ {Hx : Hp} {c : Int}, Hx t = some (.dK (townV c b)) → DGet Hx t (.str "rests") (some (.ref b)) := fun {Hx c} e => by
    have z := DGet.k (k := Sum.inr (Str.ofString "rests")) e
    rw [town_rests] at z
    exact z
  have dp1 : DPut H t (.str "count") (.int (c + 1)) (upd H t (.dK (townV (c + 1) b))) := by
    have z := DPut.k (k := Sum.inr (Str.ofString "count")) (v := .int (c + 1)) ht' (by show 2 < sizeLine; rw [sizeLine_eq]; decide)
    rw [town_put] at z
    exact z
  -- town['count'] = town['count'] + 1
  refine ⟨_, rfl, t, .int c, rfl, dgc ht', c, 1, rfl, rfl, _, rfl, t, _, rfl, dp1, ?_⟩
  generalize hH1 : upd H t (.dK (townV (c + 1) b)) = H1
  have ht1 : H1 t = some (.dK (townV (c + 1) b)) := by rw [← hH1, upd_same]
  have hb1 : H1 b = some (.dK (restsV r)) := by rw [← hH1, upd_ne hbt]; exact hb
  have hS1 : SqL K H1 a (ns.map V.int) := sqF hS0 fun x o e => by
    rw [← hH1, upd_ne (ne_of_none e nft.1)]
    exact w'.sub x o e
  rw [hH1] at wn en
  -- at
  generalize hat : (if ns.isEmpty then (0 : Int) else (c + 1) % ns.length) = at_
  have step2 : ∀ (σ : L2.St) (Q : VK), σ[0]? = some (some (.ref a)) → σ[1]? = some (some (.ref t)) → Q (.int at_) H1 → (tIf (fun σ H Q => tVar 0 σ H fun x H' => ∃ k, TruV K x H' k ∧ Q k H') (tOp (rI (fun _ j => 0 < j) fun i j => .int (i % j)) (tDGet (tVar 1) (tC (.str "count"))) (tCB (fun xs H Q => ∃ p ys, xs = [.ref p] ∧ (SqL K H p ys ∨ SqT K H p ys) ∧ Q (.int ys.length) H) (tCons (tVar 0) tNil))) (tC (.int 0))) σ H1 Q := by
    intro σ Q s0 s1 q
    refine ⟨_, s0, !(ns.map V.int).isEmpty, .inl ⟨_, hS1, rfl⟩, ?_⟩
    cases ns with
    | nil =>
      rw [← hat] at q
      exact q
    | cons x ns =>
      rw [← hat] at q
      refine ⟨_, s1, t, .int (c + 1), rfl, dgc ht1, _, s0, a, _, rfl, .inl hS1, c + 1, _, rfl, rfl, ?_, ?_⟩
      · rw [List.length_map, List.length_cons]; omega
      · rw [List.length_map]; exact q
  refine step2 _ _ rfl rfl ?_
  -- rest
  generalize hz : (if ns.isEmpty then (0 : Int) else ns.getD at_.toNat 0) = z
  have hlk : valV (restsV r) (Sum.inl at_) = (r.lookup at_).map V.int := rests_val r at_
  have step3 : ∀ (σ : L2.St) (Q : VK), σ[0]? = some (some (.ref a)) → σ[3]? = some (some (.int at_)) → Q (.int z) H1 → (tIf (fun σ H Q => tVar 0 σ H fun x H' => ∃ k, TruV K x H' k ∧ Q k H') (tOp (rIxL K) (tVar 0) (tVar 3)) (tC (.int 0))) σ H1 Q := by
    intro σ Q s0 s3 q
    refine ⟨_, s0, !(ns.map V.int).isEmpty, .inl ⟨_, hS1, rfl⟩, ?_⟩
    cases hns : ns with
    | nil =>
      rw [← hz, hns] at q
      exact q
    | cons x ns' =>
      refine ⟨_, s0, _, s3, a, _, at_, .int z, rfl, rfl, by rw [hns] at hS1; exact hS1, ?_, q⟩
      have e1 : at_ = (c + 1) % ((x :: ns').length : Int) := by rw [← hat, hns]; rfl
      have hp : (0 : Int) < ((x :: ns').length : Int) := by rw [List.length_cons]; omega
      have g0 : 0 ≤ at_ := by rw [e1]; exact Int.emod_nonneg _ (by omega)
      have g1 : at_ < ((x :: ns').length : Int) := by rw [e1]; exact Int.emod_lt_of_pos _ hp
      obtain ⟨j, rfl⟩ : ∃ j : Nat, at_ = (j : Int) := ⟨at_.toNat, by omega⟩
      have hj : j < (x :: ns').length := by omega
      refine atI_nat ?_
      rw [List.getElem?_map, List.getElem?_eq_getElem hj, ← hz, hns]
      show some (V.int _) = some (V.int (if (x :: ns').isEmpty then (0 : Int) else (x :: ns').getD (j : Int).toNat 0))
      rw [if_neg (by simp), Int.toNat_natCast, List.getD_eq_getElem?_getD, List.getElem?_eq_getElem hj]
      rfl
  refine ⟨_, rfl, t, .ref b, rfl, dgr ht1, b, rfl, .inl ⟨_, .inl hb1⟩, _, rfl, step3 _ _ rfl rfl ⟨_, DGet.k (k := Sum.inl at_) hb1, ?_⟩⟩
  generalize hrest : (match r.lookup at_ with | some q => q | none => z) = rest
  have er : (valV (restsV r) (Sum.inl at_)).getD (.int z) = .int rest := by
    rw [hlk, ← hrest]
    cases r.lookup at_ <;> rfl
  rw [er]
  have hD : drawN ns (c + 1) r many = if rest ≥ 10 ^ 18 then (rest % many, restsPut r at_ (rest / many)) else
      let n1 := (rest + 104729 * (c + 1)) % 4294967291
      let n2 := n1 ^ 5 % 4294967279
      ((n2 / 64 * 69621 + n2) % 4294967231 / 8 % many, r) := by
    rw [← hrest, ← hz, ← hat]
    rfl
  -- if rest >= 10 ** 18
  refine ⟨_, rfl, 10, 18, rfl, rfl, ⟨by decide, by decide, by decide⟩, rest, _, rfl, rfl, _, rfl, ite2 (fun e => ?_) (fun e => ?_)⟩
  · have e : (10 : Int) ^ 18 ≤ rest := of_decide_eq_true e
    rw [if_pos e] at hD
    rw [hD] at hw wn en
    refine ⟨_, rfl, _, rfl, rest, many, rfl, rfl, ⟨hm0, hm1⟩, _, rfl, t, .ref b, rfl, dgr ht1, _, rfl, b, _, rfl, DPut.k (k := Sum.inl at_) hb1 (by rw [rests_len]; exact llim), _, rfl, _, rfl, rest, many, rfl, rfl, hm0, ?_⟩
    rw [rests_put]
    exact hw _ L F' _ wn en rfl
  · have e : ¬ (10 : Int) ^ 18 ≤ rest := fun z => e (decide_eq_true z)
    rw [if_neg e] at hD
    rw [hD] at hw wn en
    have eH : upd H1 b (.dK (restsV r)) = H1 := by
      funext x
      by_cases ex : x = b
      · subst ex; rw [upd_same, hb1]
      · rw [upd_ne ex]
    rw [eH] at wn en
    have b1 : 0 ≤ (rest + 104729 * (c + 1)) % 4294967291 := Int.emod_nonneg _ (by decide)
    have b2 : (rest + 104729 * (c + 1)) % 4294967291 < 4294967291 := Int.emod_lt_of_pos _ (by decide)
    refine ⟨_, rfl, _, rfl, t, .int (c + 1), rfl, dgc ht1, 104729, c + 1, rfl, rfl, .inl ⟨by decide, by decide⟩, rest, _, rfl, rfl, _, _, rfl, rfl, (by decide : (0 : Int) < 4294967291), ?_⟩
    refine ⟨_, rfl, _, 5, rfl, rfl, ⟨by decide, by decide, by omega⟩, _, _, rfl, rfl, (by decide : (0 : Int) < 4294967279), ?_⟩
    refine ⟨_, rfl, _, 64, rfl, rfl, ⟨by decide, by decide⟩, _, 69621, rfl, rfl, .inr ⟨by decide, by decide⟩, _, rfl, _, _, rfl, rfl, _, _, rfl, rfl, (by decide : (0 : Int) < 4294967231), _, 8, rfl, rfl, ⟨by decide, by decide⟩, _, rfl, _, _, rfl, rfl, hm0, ?_⟩
    exact hw _ L F' _ wn en rfl
end
end Mini
namespace Mini
open PySem PySem.Spec L2
open PyProof.Rows hiding St

def spLaw (K : PySem.W.Frag) : Sp := fun vs H Q _ => ∃ (a : Addr) (ns : List Int), vs = [.ref a] ∧ SqL K H a (ns.map V.int) ∧ ns.length ≤ 63 ∧ ∀ H', Q (.bl true) H'
theorem all_mk {l : PySem.W.OpenLaw} {w : World} {K : PySem.W.Frag} {h : Heap} {mg : Str → Option Value} {fa f_is_between f_is_ascending f_are_messages f_is_receiver f_is_task f_check_messages f_is_sum f_is_code_of f_is_code f_law_is f_law_draw f_law_begun f_law_task f_law_sum f_law_code f_law_bounds f_law C_InvalidMessages : Addr} {od_is_between an_is_between : Option Addr} {sl_is_between : Array (Option Value)} {oc_is_between kV_is_between dc_is_between pm_is_between cd_is_between ct_is_between : Value} {od_is_ascending an_is_ascending : Option Addr} {sl_is_ascending : Array (Option Value)} {oc_is_ascending kV_is_ascending dc_is_ascending pm_is_ascending cd_is_ascending ct_is_ascending : Value} {od_are_messages an_are_messages : Option Addr} {sl_are_messages : Array (Option Value)} {oc_are_messages kV_are_messages dc_are_messages pm_are_messages cd_are_messages ct_are_messages : Value} {od_is_receiver an_is_receiver : Option Addr} {sl_is_receiver : Array (Option Value)} {oc_is_receiver kV_is_receiver dc_is_receiver pm_is_receiver cd_is_receiver ct_is_receiver : Value} {od_is_task an_is_task : Option Addr} {sl_is_task : Array (Option Value)} {oc_is_task kV_is_task dc_is_task pm_is_task cd_is_task ct_is_task : Value} {od_check_messages an_check_messages : Option Addr} {sl_check_messages : Array (Option Value)} {oc_check_messages kV_check_messages dc_check_messages pm_check_messages cd_check_messages ct_check_messages : Value} {od_is_sum an_is_sum : Option Addr} {sl_is_sum : Array (Option Value)} {oc_is_sum kV_is_sum dc_is_sum pm_is_sum cd_is_sum ct_is_sum : Value} {od_is_code_of an_is_code_of : Option Addr} {sl_is_code_of : Array (Option Value)} {oc_is_code_of kV_is_code_of dc_is_code_of pm_is_code_of cd_is_code_of ct_is_code_of : Value} {od_is_code an_is_code : Option Addr} {sl_is_code : Array (Option Value)} {oc_is_code kV_is_code dc_is_code pm_is_code cd_is_code ct_is_code : Value} {od_law_is an_law_is : Option Addr} {sl_law_is : Array (Option Value)} {oc_law_is kV_law_is dc_law_is pm_law_is cd_law_is ct_law_is : Value} {od_law_draw an_law_draw : Option Addr} {sl_law_draw : Array (Option Value)} {oc_law_draw kV_law_draw dc_law_draw pm_law_draw cd_law_draw ct_law_draw : Value} {od_law_begun an_law_begun : Option Addr} {sl_law_begun : Array (Option Value)} {oc_law_begun kV_law_begun dc_law_begun pm_law_begun cd_law_begun ct_law_begun : Value} {od_law_task an_law_task : Option Addr} {sl_law_task : Array (Option Value)} {oc_law_task kV_law_task dc_law_task pm_law_task cd_law_task ct_law_task : Value} {od_law_sum an_law_sum : Option Addr} {sl_law_sum : Array (Option Value)} {oc_law_sum kV_law_sum dc_law_sum pm_law_sum cd_law_sum ct_law_sum : Value} {od_law_code an_law_code : Option Addr} {sl_law_code : Array (Option Value)} {oc_law_code kV_law_code dc_law_code pm_law_code cd_law_code ct_law_code : Value} {od_law_bounds an_law_bounds : Option Addr} {sl_law_bounds : Array (Option Value)} {oc_law_bounds kV_law_bounds dc_law_bounds pm_law_bounds cd_law_bounds ct_law_bounds : Value} {od_law an_law : Option Addr} {sl_law : Array (Option Value)} {oc_law kV_law dc_law pm_law cd_law ct_law : Value} {t_MOST : Tok} {t_SUMS : Tok} (X : K.In h) (G : h.Ns mainGlobals mg) (hfa : mg "law" = some (.ref fa))
    (a_is_between : PySem.W.nsIn K mainGlobals "is_between" = some (some (.ref f_is_between)))
    (l_is_between : K.lookup f_is_between = some ⟨oc_is_between, od_is_between, .func (PySem.W.fnOf "is_between" "is_between" (defArgs s_is_between) (defBody s_is_between) (defScope s_is_between) .none kV_is_between dc_is_between pm_is_between an_is_between cd_is_between ct_is_between), sl_is_between⟩)
    (c_is_between : PySem.W.codeIn K cd_is_between "is_between" = true)
    (k_is_between : PySem.W.keepIn K (.ref f_is_between) = true)
    (a_is_ascending : PySem.W.nsIn K mainGlobals "is_ascending" = some (some (.ref f_is_ascending)))
    (l_is_ascending : K.lookup f_is_ascending = some ⟨oc_is_ascending, od_is_ascending, .func (PySem.W.fnOf "is_ascending" "is_ascending" (defArgs s_is_ascending) (defBody s_is_ascending) (defScope s_is_ascending) .none kV_is_ascending dc_is_ascending pm_is_ascending an_is_ascending cd_is_ascending ct_is_ascending), sl_is_ascending⟩)
    (c_is_ascending : PySem.W.codeIn K cd_is_ascending "is_ascending" = true)
    (k_is_ascending : PySem.W.keepIn K (.ref f_is_ascending) = true)
    (a_are_messages : PySem.W.nsIn K mainGlobals "are_messages" = some (some (.ref f_are_messages)))
    (l_are_messages : K.lookup f_are_messages = some ⟨oc_are_messages, od_are_messages, .func (PySem.W.fnOf "are_messages" "are_messages" (defArgs s_are_messages) (defBody s_are_messages) (defScope s_are_messages) .none kV_are_messages dc_are_messages pm_are_messages an_are_messages cd_are_messages ct_are_messages), sl_are_messages⟩)
    (c_are_messages : PySem.W.codeIn K cd_are_messages "are_messages" = true)
    (k_are_messages : PySem.W.keepIn K (.ref f_are_messages) = true)
    (a_is_receiver : PySem.W.nsIn K mainGlobals "is_receiver" = some (some (.ref f_is_receiver)))
    (l_is_receiver : K.lookup f_is_receiver = some ⟨oc_is_receiver, od_is_receiver, .func (PySem.W.fnOf "is_receiver" "is_receiver" (defArgs s_is_receiver) (defBody s_is_receiver) (defScope s_is_receiver) .none kV_is_receiver dc_is_receiver pm_is_receiver an_is_receiver cd_is_receiver ct_is_receiver), sl_is_receiver⟩)
    (c_is_receiver : PySem.W.codeIn K cd_is_receiver "is_receiver" = true)
    (k_is_receiver : PySem.W.keepIn K (.ref f_is_receiver) = true)
    (a_is_task : PySem.W.nsIn K mainGlobals "is_task" = some (some (.ref f_is_task)))
    (l_is_task : K.lookup f_is_task = some ⟨oc_is_task, od_is_task, .func (PySem.W.fnOf "is_task" "is_task" (defArgs s_is_task) (defBody s_is_task) (defScope s_is_task) .none kV_is_task dc_is_task pm_is_task an_is_task cd_is_task ct_is_task), sl_is_task⟩)
    (c_is_task : PySem.W.codeIn K cd_is_task "is_task" = true)
    (k_is_task : PySem.W.keepIn K (.ref f_is_task) = true)
    (a_check_messages : PySem.W.nsIn K mainGlobals "check_messages" = some (some (.ref f_check_messages)))
    (l_check_messages : K.lookup f_check_messages = some ⟨oc_check_messages, od_check_messages, .func (PySem.W.fnOf "check_messages" "check_messages" (defArgs s_check_messages) (defBody s_check_messages) (defScope s_check_messages) .none kV_check_messages dc_check_messages pm_check_messages an_check_messages cd_check_messages ct_check_messages), sl_check_messages⟩)
    (c_check_messages : PySem.W.codeIn K cd_check_messages "check_messages" = true)
    (k_check_messages : PySem.W.keepIn K (.ref f_check_messages) = true)
    (a_is_sum : PySem.W.nsIn K mainGlobals "is_sum" = some (some (.ref f_is_sum)))
    (l_is_sum : K.lookup f_is_sum = some ⟨oc_is_sum, od_is_sum, .func (PySem.W.fnOf "is_sum" "is_sum" (defArgs s_is_sum) (defBody s_is_sum) (defScope s_is_sum) .none kV_is_sum dc_is_sum pm_is_sum an_is_sum cd_is_sum ct_is_sum), sl_is_sum⟩)
    (c_is_sum : PySem.W.codeIn K cd_is_sum "is_sum" = true)
    (k_is_sum : PySem.W.keepIn K (.ref f_is_sum) = true)
    (a_is_code_of : PySem.W.nsIn K mainGlobals "is_code_of" = some (some (.ref f_is_code_of)))
    (l_is_code_of : K.lookup f_is_code_of = some ⟨oc_is_code_of, od_is_code_of, .func (PySem.W.fnOf "is_code_of" "is_code_of" (defArgs s_is_code_of) (defBody s_is_code_of) (defScope s_is_code_of) .none kV_is_code_of dc_is_code_of pm_is_code_of an_is_code_of cd_is_code_of ct_is_code_of), sl_is_code_of⟩)
    (c_is_code_of : PySem.W.codeIn K cd_is_code_of "is_code_of" = true)
    (k_is_code_of : PySem.W.keepIn K (.ref f_is_code_of) = true)
    (a_is_code : PySem.W.nsIn K mainGlobals "is_code" = some (some (.ref f_is_code)))
    (l_is_code : K.lookup f_is_code = some ⟨oc_is_code, od_is_code, .func (PySem.W.fnOf "is_code" "is_code" (defArgs s_is_code) (defBody s_is_code) (defScope s_is_code) .none kV_is_code dc_is_code pm_is_code an_is_code cd_is_code ct_is_code), sl_is_code⟩)
    (c_is_code : PySem.W.codeIn K cd_is_code "is_code" = true)
    (k_is_code : PySem.W.keepIn K (.ref f_is_code) = true)
    (a_law_is : PySem.W.nsIn K mainGlobals "_law_is" = some (some (.ref f_law_is)))
    (l_law_is : K.lookup f_law_is = some ⟨oc_law_is, od_law_is, .func (PySem.W.fnOf "_law_is" "_law_is" (defArgs s_law_is) (defBody s_law_is) (defScope s_law_is) .none kV_law_is dc_law_is pm_law_is an_law_is cd_law_is ct_law_is), sl_law_is⟩)
    (c_law_is : PySem.W.codeIn K cd_law_is "_law_is" = true)
    (k_law_is : PySem.W.keepIn K (.ref f_law_is) = true)
    (a_law_draw : PySem.W.nsIn K mainGlobals "_law_draw" = some (some (.ref f_law_draw)))
    (l_law_draw : K.lookup f_law_draw = some ⟨oc_law_draw, od_law_draw, .func (PySem.W.fnOf "_law_draw" "_law_draw" (defArgs s_law_draw) (defBody s_law_draw) (defScope s_law_draw) .none kV_law_draw dc_law_draw pm_law_draw an_law_draw cd_law_draw ct_law_draw), sl_law_draw⟩)
    (c_law_draw : PySem.W.codeIn K cd_law_draw "_law_draw" = true)
    (k_law_draw : PySem.W.keepIn K (.ref f_law_draw) = true)
    (a_law_begun : PySem.W.nsIn K mainGlobals "_law_begun" = some (some (.ref f_law_begun)))
    (l_law_begun : K.lookup f_law_begun = some ⟨oc_law_begun, od_law_begun, .func (PySem.W.fnOf "_law_begun" "_law_begun" (defArgs s_law_begun) (defBody s_law_begun) (defScope s_law_begun) .none kV_law_begun dc_law_begun pm_law_begun an_law_begun cd_law_begun ct_law_begun), sl_law_begun⟩)
    (c_law_begun : PySem.W.codeIn K cd_law_begun "_law_begun" = true)
    (k_law_begun : PySem.W.keepIn K (.ref f_law_begun) = true)
    (a_law_task : PySem.W.nsIn K mainGlobals "_law_task" = some (some (.ref f_law_task)))
    (l_law_task : K.lookup f_law_task = some ⟨oc_law_task, od_law_task, .func (PySem.W.fnOf "_law_task" "_law_task" (defArgs s_law_task) (defBody s_law_task) (defScope s_law_task) .none kV_law_task dc_law_task pm_law_task an_law_task cd_law_task ct_law_task), sl_law_task⟩)
    (c_law_task : PySem.W.codeIn K cd_law_task "_law_task" = true)
    (k_law_task : PySem.W.keepIn K (.ref f_law_task) = true)
    (a_law_sum : PySem.W.nsIn K mainGlobals "_law_sum" = some (some (.ref f_law_sum)))
    (l_law_sum : K.lookup f_law_sum = some ⟨oc_law_sum, od_law_sum, .func (PySem.W.fnOf "_law_sum" "_law_sum" (defArgs s_law_sum) (defBody s_law_sum) (defScope s_law_sum) .none kV_law_sum dc_law_sum pm_law_sum an_law_sum cd_law_sum ct_law_sum), sl_law_sum⟩)
    (c_law_sum : PySem.W.codeIn K cd_law_sum "_law_sum" = true)
    (k_law_sum : PySem.W.keepIn K (.ref f_law_sum) = true)
    (a_law_code : PySem.W.nsIn K mainGlobals "_law_code" = some (some (.ref f_law_code)))
    (l_law_code : K.lookup f_law_code = some ⟨oc_law_code, od_law_code, .func (PySem.W.fnOf "_law_code" "_law_code" (defArgs s_law_code) (defBody s_law_code) (defScope s_law_code) .none kV_law_code dc_law_code pm_law_code an_law_code cd_law_code ct_law_code), sl_law_code⟩)
    (c_law_code : PySem.W.codeIn K cd_law_code "_law_code" = true)
    (k_law_code : PySem.W.keepIn K (.ref f_law_code) = true)
    (a_law_bounds : PySem.W.nsIn K mainGlobals "_law_bounds" = some (some (.ref f_law_bounds)))
    (l_law_bounds : K.lookup f_law_bounds = some ⟨oc_law_bounds, od_law_bounds, .func (PySem.W.fnOf "_law_bounds" "_law_bounds" (defArgs s_law_bounds) (defBody s_law_bounds) (defScope s_law_bounds) .none kV_law_bounds dc_law_bounds pm_law_bounds an_law_bounds cd_law_bounds ct_law_bounds), sl_law_bounds⟩)
    (c_law_bounds : PySem.W.codeIn K cd_law_bounds "_law_bounds" = true)
    (k_law_bounds : PySem.W.keepIn K (.ref f_law_bounds) = true)
    (a_law : PySem.W.nsIn K mainGlobals "law" = some (some (.ref f_law)))
    (l_law : K.lookup f_law = some ⟨oc_law, od_law, .func (PySem.W.fnOf "law" "law" (defArgs s_law) (defBody s_law) (defScope s_law) .none kV_law dc_law pm_law an_law cd_law ct_law), sl_law⟩)
    (c_law : PySem.W.codeIn K cd_law "law" = true)
    (k_law : PySem.W.keepIn K (.ref f_law) = true)
    (ea_InvalidMessages : PySem.W.nsIn K mainGlobals "InvalidMessages" = some (some (.ref C_InvalidMessages)))
    (ex_InvalidMessages : PySem.W.excIn K C_InvalidMessages [.type "ValueError", .type "Exception", .type "BaseException", .type "object"] "ValueError.__new__" = true)
    (ek_InvalidMessages : PySem.W.keepIn K (.ref C_InvalidMessages) = true)
    (eb_InvalidMessages : PySem.W.subIn K (.ref C_InvalidMessages) (.type "BaseException") = some true)
    (et_InvalidMessages : PySem.W.typeIn K (.ref C_InvalidMessages) = some (.type "type"))
    (g_MOST : PySem.W.nsIn K mainGlobals "MOST" = some (some (.int 6 t_MOST)))
    (g_SUMS : PySem.W.nsIn K mainGlobals "SUMS" = some (some (.int 8 t_SUMS)))
    (z_isinstance : PySem.W.nsIn K mainGlobals "isinstance" = some none)
    (z_len : PySem.W.nsIn K mainGlobals "len" = some none)
    (z_all : PySem.W.nsIn K mainGlobals "all" = some none)
    (z_tuple : PySem.W.nsIn K mainGlobals "tuple" = some none)
    (z_list : PySem.W.nsIn K mainGlobals "list" = some none)
    (z_sorted : PySem.W.nsIn K mainGlobals "sorted" = some none)
    (z_min : PySem.W.nsIn K mainGlobals "min" = some none)
    (z_max : PySem.W.nsIn K mainGlobals "max" = some none)
    (z_set : PySem.W.nsIn K mainGlobals "set" = some none)
    (z_dict : PySem.W.nsIn K mainGlobals "dict" = some none)
    (z_int : PySem.W.nsIn K mainGlobals "int" = some none)
    (z_bool : PySem.W.nsIn K mainGlobals "bool" = some none)
    (z_str : PySem.W.nsIn K mainGlobals "str" = some none)
    (z_range : PySem.W.nsIn K mainGlobals "range" = some none)
    (z_zip : PySem.W.nsIn K mainGlobals "zip" = some none)
    (z_enumerate : PySem.W.nsIn K mainGlobals "enumerate" = some none)
    (z_ValueError : PySem.W.nsIn K mainGlobals "ValueError" = some none) :
    ∃ fd : FuncData, (∀ (s : Shared) (v : Value), BindsTo s fd ⟨[v], []⟩ [("_law_script", v)]) ∧ ∀ base : Heap, K.In base → base.Ns mainGlobals mg → FnOk l.prog w K mg base (L2.CX l.prog w) 7 fa fd ["_law_script"] (spLaw K) := by
  letI : KFrag := ⟨K⟩
  have e := hfa.symm.trans (PySem.W.mg_of X G a_law)
  cases e
  have F_is_between := fun_mk (st := s_is_between) l_is_between c_is_between k_is_between
  have F_is_ascending := fun_mk (st := s_is_ascending) l_is_ascending c_is_ascending k_is_ascending
  have F_are_messages := fun_mk (st := s_are_messages) l_are_messages c_are_messages k_are_messages
  have F_is_receiver := fun_mk (st := s_is_receiver) l_is_receiver c_is_receiver k_is_receiver
  have F_is_task := fun_mk (st := s_is_task) l_is_task c_is_task k_is_task
  have F_check_messages := fun_mk (st := s_check_messages) l_check_messages c_check_messages k_check_messages
  have F_is_sum := fun_mk (st := s_is_sum) l_is_sum c_is_sum k_is_sum
  have F_is_code_of := fun_mk (st := s_is_code_of) l_is_code_of c_is_code_of k_is_code_of
  have F_is_code := fun_mk (st := s_is_code) l_is_code c_is_code k_is_code
  have F_law_is := fun_mk (st := s_law_is) l_law_is c_law_is k_law_is
  have F_law_draw := fun_mk (st := s_law_draw) l_law_draw c_law_draw k_law_draw
  have F_law_begun := fun_mk (st := s_law_begun) l_law_begun c_law_begun k_law_begun
  have F_law_task := fun_mk (st := s_law_task) l_law_task c_law_task k_law_task
  have F_law_sum := fun_mk (st := s_law_sum) l_law_sum c_law_sum k_law_sum
  have F_law_code := fun_mk (st := s_law_code) l_law_code c_law_code k_law_code
  have F_law_bounds := fun_mk (st := s_law_bounds) l_law_bounds c_law_bounds k_law_bounds
  have F_law := fun_mk (st := s_law) l_law c_law k_law
  have hb : ∀ x, x ∈ bnames → mg x = none := by
    intro x hx
    simp only [bnames, List.mem_cons, List.not_mem_nil, or_false] at hx
    rcases hx with rfl | rfl | rfl | rfl | rfl | rfl | rfl | rfl | rfl | rfl | rfl | rfl | rfl | rfl | rfl | rfl | rfl
    · exact PySem.W.mg_none_of X G z_isinstance
    · exact PySem.W.mg_none_of X G z_len
    · exact PySem.W.mg_none_of X G z_all
    · exact PySem.W.mg_none_of X G z_tuple
    · exact PySem.W.mg_none_of X G z_list
    · exact PySem.W.mg_none_of X G z_sorted
    · exact PySem.W.mg_none_of X G z_min
    · exact PySem.W.mg_none_of X G z_max
    · exact PySem.W.mg_none_of X G z_set
    · exact PySem.W.mg_none_of X G z_dict
    · exact PySem.W.mg_none_of X G z_int
    · exact PySem.W.mg_none_of X G z_bool
    · exact PySem.W.mg_none_of X G z_str
    · exact PySem.W.mg_none_of X G z_range
    · exact PySem.W.mg_none_of X G z_zip
    · exact PySem.W.mg_none_of X G z_enumerate
    · exact PySem.W.mg_none_of X G z_ValueError
  refine ⟨PySem.W.fnOf "law" "law" (defArgs s_law) (defBody s_law) (defScope s_law) .none kV_law dc_law pm_law an_law cd_law ct_law, fun s v => .of_eq rfl, fun base _ _ => ?_⟩
  have O_is_between : FnOk l.prog w K mg base (L2.CX l.prog w) 1 _ _ ["value", "low", "high"] (spM mg 3 m_is_between) := def_ok (k := 0) F_is_between sc_is_between hb rfl rfl ck_is_between (us_is_between (P := UseK l.prog w K mg base 0) )
  have C_is_between : CallK l.prog w K mg base 1 (Str.ofString "is_between") [] m_is_between 3 := callK_pos F_is_between O_is_between (PySem.W.mg_of X G a_is_between) rfl fun _ _ _ _ _ _ us hl => match us, hl with | [_, _, _], _ => rfl
  have O_is_ascending : FnOk l.prog w K mg base (L2.CX l.prog w) 1 _ _ ["values"] (spM mg 1 m_is_ascending) := def_ok (k := 0) F_is_ascending sc_is_ascending hb rfl rfl ck_is_ascending (us_is_ascending (P := UseK l.prog w K mg base 0) )
  have C_is_ascending : CallK l.prog w K mg base 1 (Str.ofString "is_ascending") [] m_is_ascending 1 := callK_pos F_is_ascending O_is_ascending (PySem.W.mg_of X G a_is_ascending) rfl fun _ _ _ _ _ _ us hl => match us, hl with | [_], _ => rfl
  have O_are_messages : FnOk l.prog w K mg base (L2.CX l.prog w) 2 _ _ ["messages", "value"] (spM mg 2 m_are_messages) := def_ok (k := 1) F_are_messages sc_are_messages hb rfl rfl ck_are_messages (us_are_messages (P := UseK l.prog w K mg base 1) (CallK.mono C_is_between (by decide)) (CallK.mono C_is_ascending (by decide)))
  have C_are_messages : CallK l.prog w K mg base 2 (Str.ofString "are_messages") [] m_are_messages 2 := callK_pos F_are_messages O_are_messages (PySem.W.mg_of X G a_are_messages) rfl fun _ _ _ _ _ _ us hl => match us, hl with | [_, _], _ => rfl
  have O_is_receiver : FnOk l.prog w K mg base (L2.CX l.prog w) 3 _ _ ["messages", "value"] (spM mg 2 m_is_receiver) := def_ok (k := 2) F_is_receiver sc_is_receiver hb rfl rfl ck_is_receiver (us_is_receiver (P := UseK l.prog w K mg base 2) (CallK.mono C_is_between (by decide)) (CallK.mono C_are_messages (by decide)))
  have C_is_receiver : CallK l.prog w K mg base 3 (Str.ofString "is_receiver") [] m_is_receiver 2 := callK_pos F_is_receiver O_is_receiver (PySem.W.mg_of X G a_is_receiver) rfl fun _ _ _ _ _ _ us hl => match us, hl with | [_, _], _ => rfl
  have O_is_task : FnOk l.prog w K mg base (L2.CX l.prog w) 4 _ _ ["value"] (spM mg 1 m_is_task) := def_ok (k := 3) F_is_task sc_is_task hb rfl rfl ck_is_task (us_is_task (P := UseK l.prog w K mg base 3) (CallK.mono C_is_between (by decide)) (CallK.mono C_is_receiver (by decide)) ⟨_, PySem.W.mg_of X G g_MOST⟩)
  have C_is_task : CallK l.prog w K mg base 4 (Str.ofString "is_task") [] m_is_task 1 := callK_pos F_is_task O_is_task (PySem.W.mg_of X G a_is_task) rfl fun _ _ _ _ _ _ us hl => match us, hl with | [_], _ => rfl
  have C_is_task_value : CallK l.prog w K mg base 4 (Str.ofString "is_task") [(Str.ofString "value")] m_is_task 1 := callK_kws F_is_task O_is_task (PySem.W.mg_of X G a_is_task) rfl rfl fun _ _ _ _ _ _ us hl => match us, hl with | [_], _ => rfl
  have O_check_messages : FnOk l.prog w K mg base (L2.CX l.prog w) 2 _ _ ["messages"] (spM mg 1 m_check_messages) := def_ok (k := 1) F_check_messages sc_check_messages hb rfl rfl ck_check_messages (us_check_messages (P := UseK l.prog w K mg base 1) (CallK.mono C_is_between (by decide)) ⟨_, PySem.W.mg_of X G g_MOST⟩ ⟨_, _, _, _, _, PySem.W.mg_of X G ea_InvalidMessages, PySem.F.excBase_ValueError, ex_InvalidMessages, ek_InvalidMessages, eb_InvalidMessages, et_InvalidMessages⟩)
  have C_check_messages : CallK l.prog w K mg base 2 (Str.ofString "check_messages") [] m_check_messages 1 := callK_pos F_check_messages O_check_messages (PySem.W.mg_of X G a_check_messages) rfl fun _ _ _ _ _ _ us hl => match us, hl with | [_], _ => rfl
  have O_is_sum : FnOk l.prog w K mg base (L2.CX l.prog w) 3 _ _ ["messages", "value"] (spM mg 2 m_is_sum) := def_ok (k := 2) F_is_sum sc_is_sum hb rfl rfl ck_is_sum (us_is_sum (P := UseK l.prog w K mg base 2) (CallK.mono C_are_messages (by decide)))
  have C_is_sum : CallK l.prog w K mg base 3 (Str.ofString "is_sum") [] m_is_sum 2 := callK_pos F_is_sum O_is_sum (PySem.W.mg_of X G a_is_sum) rfl fun _ _ _ _ _ _ us hl => match us, hl with | [_, _], _ => rfl
  have O_is_code_of : FnOk l.prog w K mg base (L2.CX l.prog w) 4 _ _ ["messages", "value"] (spM mg 2 m_is_code_of) := def_ok (k := 3) F_is_code_of sc_is_code_of hb rfl rfl ck_is_code_of (us_is_code_of (P := UseK l.prog w K mg base 3) (CallK.mono C_is_sum (by decide)) ⟨_, PySem.W.mg_of X G g_SUMS⟩)
  have C_is_code_of : CallK l.prog w K mg base 4 (Str.ofString "is_code_of") [] m_is_code_of 2 := callK_pos F_is_code_of O_is_code_of (PySem.W.mg_of X G a_is_code_of) rfl fun _ _ _ _ _ _ us hl => match us, hl with | [_, _], _ => rfl
  have O_is_code : FnOk l.prog w K mg base (L2.CX l.prog w) 5 _ _ ["messages", "value"] (spM mg 2 m_is_code) := def_ok (k := 4) F_is_code sc_is_code hb rfl rfl ck_is_code (us_is_code (P := UseK l.prog w K mg base 4) (CallK.mono C_check_messages (by decide)) (CallK.mono C_is_code_of (by decide)))
  have C_is_code : CallK l.prog w K mg base 5 (Str.ofString "is_code") [] m_is_code 2 := callK_pos F_is_code O_is_code (PySem.W.mg_of X G a_is_code) rfl fun _ _ _ _ _ _ us hl => match us, hl with | [_, _], _ => rfl
  have C_is_code_messages_value : CallK l.prog w K mg base 5 (Str.ofString "is_code") [(Str.ofString "messages"), (Str.ofString "value")] m_is_code 2 := callK_kws F_is_code O_is_code (PySem.W.mg_of X G a_is_code) rfl rfl fun _ _ _ _ _ _ us hl => match us, hl with | [_, _], _ => rfl
  have O_law_is : FnOk l.prog w K mg base (L2.CX l.prog w) 1 _ _ ["_law_result", "_law_expected"] (spM mg 2 m_law_is) := def_ok (k := 0) F_law_is sc_law_is hb rfl rfl ck_law_is (us_law_is (P := UseK l.prog w K mg base 0) )
  have C_law_is : CallK l.prog w K mg base 1 (Str.ofString "_law_is") [] m_law_is 2 := callK_pos F_law_is O_law_is (PySem.W.mg_of X G a_law_is) rfl fun _ _ _ _ _ _ us hl => match us, hl with | [_, _], _ => rfl
  have O_law_draw : FnOk l.prog w K mg base (L2.CX l.prog w) 1 f_law_draw _ ["_law_script", "_law_town", "_law_many"] (spM mg 3 drawM) := ok_draw F_law_draw rfl (PySem.W.mg_none_of X G z_len)
  have C_law_draw : CallK l.prog w K mg base 1 (Str.ofString "_law_draw") [] drawM 3 := callK_pos F_law_draw O_law_draw (PySem.W.mg_of X G a_law_draw) rfl fun _ _ _ _ _ _ us hl => match us, hl with | [_, _, _], _ => rfl
  have O_law_begun : FnOk l.prog w K mg base (L2.CX l.prog w) 1 f_law_begun _ [] (spM mg 0 begunM) := ok_begun F_law_begun
  have C_law_begun : CallK l.prog w K mg base 1 (Str.ofString "_law_begun") [] begunM 0 := callK_pos F_law_begun O_law_begun (PySem.W.mg_of X G a_law_begun) rfl fun _ _ _ _ _ _ us hl => match us, hl with | [], _ => rfl
  have O_law_task : FnOk l.prog w K mg base (L2.CX l.prog w) 2 _ _ ["_law_script", "_law_town", "_law_most", "_law_many"] (spM mg 4 m_law_task) := def_ok (k := 1) F_law_task sc_law_task hb rfl rfl ck_law_task (us_law_task (P := UseK l.prog w K mg base 1) (CallK.mono C_law_draw (by decide)))
  have C_law_task : CallK l.prog w K mg base 2 (Str.ofString "_law_task") [] m_law_task 4 := callK_pos F_law_task O_law_task (PySem.W.mg_of X G a_law_task) rfl fun _ _ _ _ _ _ us hl => match us, hl with | [_, _, _, _], _ => rfl
  have O_law_sum : FnOk l.prog w K mg base (L2.CX l.prog w) 2 _ _ ["_law_script", "_law_town", "_law_messages_here"] (spM mg 3 m_law_sum) := def_ok (k := 1) F_law_sum sc_law_sum hb rfl rfl ck_law_sum (us_law_sum (P := UseK l.prog w K mg base 1) (CallK.mono C_law_draw (by decide)))
  have C_law_sum : CallK l.prog w K mg base 2 (Str.ofString "_law_sum") [] m_law_sum 3 := callK_pos F_law_sum O_law_sum (PySem.W.mg_of X G a_law_sum) rfl fun _ _ _ _ _ _ us hl => match us, hl with | [_, _, _], _ => rfl
  have O_law_code : FnOk l.prog w K mg base (L2.CX l.prog w) 3 _ _ ["_law_script", "_law_town", "_law_messages_here", "_law_most"] (spM mg 4 m_law_code) := def_ok (k := 2) F_law_code sc_law_code hb rfl rfl ck_law_code (us_law_code (P := UseK l.prog w K mg base 2) (CallK.mono C_law_draw (by decide)) (CallK.mono C_law_sum (by decide)))
  have C_law_code : CallK l.prog w K mg base 3 (Str.ofString "_law_code") [] m_law_code 4 := callK_pos F_law_code O_law_code (PySem.W.mg_of X G a_law_code) rfl fun _ _ _ _ _ _ us hl => match us, hl with | [_, _, _, _], _ => rfl
  have O_law_bounds : FnOk l.prog w K mg base (L2.CX l.prog w) 6 _ _ [] (spM mg 0 m_law_bounds) := def_ok (k := 5) F_law_bounds sc_law_bounds hb rfl rfl ck_law_bounds (us_law_bounds (P := UseK l.prog w K mg base 5) (CallK.mono C_law_is (by decide)) (CallK.mono C_is_task (by decide)) (CallK.mono C_is_code (by decide)))
  have C_law_bounds : CallK l.prog w K mg base 6 (Str.ofString "_law_bounds") [] m_law_bounds 0 := callK_pos F_law_bounds O_law_bounds (PySem.W.mg_of X G a_law_bounds) rfl fun _ _ _ _ _ _ us hl => match us, hl with | [], _ => rfl
  have O_law : FnOk l.prog w K mg base (L2.CX l.prog w) 7 _ _ ["_law_script"] (spM mg 1 m_law) := def_ok (k := 6) F_law sc_law hb rfl rfl ck_law (us_law (P := UseK l.prog w K mg base 6) (CallK.mono C_law_begun (by decide)) (CallK.mono C_law_bounds (by decide)) (CallK.mono C_law_is (by decide)) (CallK.mono C_is_task (by decide)) (CallK.mono C_is_code (by decide)) (CallK.mono C_law_task (by decide)) (CallK.mono C_is_task_value (by decide)) (CallK.mono C_law_draw (by decide)) (CallK.mono C_law_code (by decide)) (CallK.mono C_is_code_messages_value (by decide)))
  refine O_law.imp fun vs H Q E ⟨a, ns, e, hS, hl, q⟩ => ?_
  subst e
  exact spM_law hS (law_true ns hl) q
end Mini
end
open PySem PySem.W PyProof.Rows
set_option maxHeartbeats 0 in
theorem PySem.Challenge.cw_codecast_k01_not_tasks_holds : PySem.Challenge.rw_codecast_k01_not_tasks.Holds := by
  w_on; o_law; k_head; (case hw => w_witness2)
  k_fill
  refine L2.walk_of (l := PySem.Challenge.rw_codecast_k01_not_tasks) (n := 63) (k := 7) (x := "_law_script") (CX := fun w => L2.CX PySem.Challenge.pw_codecast_k01_not_tasks w) (sp := fun w => Mini.spLaw _) rfl (by decide) rfl ⟨rfl, by decide, by decide⟩ (fun w h Y => PySem.W.kIn_of Y) ?F (fun _ _ a ns hl _ hS => ⟨a, ns, rfl, hS, hl, fun _ => rfl⟩) (fun _ _ _ _ _ h => Mini.cx_no h)
  case F =>
    intro w mg fa h KX G hmg
    refine' Mini.all_mk (l := PySem.Challenge.rw_codecast_k01_not_tasks) KX G hmg ?a_is_between ?l_is_between ?c_is_between ?k_is_between ?a_is_ascending ?l_is_ascending ?c_is_ascending ?k_is_ascending ?a_are_messages ?l_are_messages ?c_are_messages ?k_are_messages ?a_is_receiver ?l_is_receiver ?c_is_receiver ?k_is_receiver ?a_is_task ?l_is_task ?c_is_task ?k_is_task ?a_check_messages ?l_check_messages ?c_check_messages ?k_check_messages ?a_is_sum ?l_is_sum ?c_is_sum ?k_is_sum ?a_is_code_of ?l_is_code_of ?c_is_code_of ?k_is_code_of ?a_is_code ?l_is_code ?c_is_code ?k_is_code ?a_law_is ?l_law_is ?c_law_is ?k_law_is ?a_law_draw ?l_law_draw ?c_law_draw ?k_law_draw ?a_law_begun ?l_law_begun ?c_law_begun ?k_law_begun ?a_law_task ?l_law_task ?c_law_task ?k_law_task ?a_law_sum ?l_law_sum ?c_law_sum ?k_law_sum ?a_law_code ?l_law_code ?c_law_code ?k_law_code ?a_law_bounds ?l_law_bounds ?c_law_bounds ?k_law_bounds ?a_law ?l_law ?c_law ?k_law ?ea_InvalidMessages ?ex_InvalidMessages ?ek_InvalidMessages ?eb_InvalidMessages ?et_InvalidMessages ?g_MOST ?g_SUMS ?z_isinstance ?z_len ?z_all ?z_tuple ?z_list ?z_sorted ?z_min ?z_max ?z_set ?z_dict ?z_int ?z_bool ?z_str ?z_range ?z_zip ?z_enumerate ?z_ValueError
    (case a_is_between => k_is)
    (case l_is_between => k_is)
    (case c_is_between => k_is)
    (case k_is_between => k_is)
    (case a_is_ascending => k_is)
    (case l_is_ascending => k_is)
    (case c_is_ascending => k_is)
    (case k_is_ascending => k_is)
    (case a_are_messages => k_is)
    (case l_are_messages => k_is)
    (case c_are_messages => k_is)
    (case k_are_messages => k_is)
    (case a_is_receiver => k_is)
    (case l_is_receiver => k_is)
    (case c_is_receiver => k_is)
    (case k_is_receiver => k_is)
    (case a_is_task => k_is)
    (case l_is_task => k_is)
    (case c_is_task => k_is)
    (case k_is_task => k_is)
    (case a_check_messages => k_is)
    (case l_check_messages => k_is)
    (case c_check_messages => k_is)
    (case k_check_messages => k_is)
    (case a_is_sum => k_is)
    (case l_is_sum => k_is)
    (case c_is_sum => k_is)
    (case k_is_sum => k_is)
    (case a_is_code_of => k_is)
    (case l_is_code_of => k_is)
    (case c_is_code_of => k_is)
    (case k_is_code_of => k_is)
    (case a_is_code => k_is)
    (case l_is_code => k_is)
    (case c_is_code => k_is)
    (case k_is_code => k_is)
    (case a_law_is => k_is)
    (case l_law_is => k_is)
    (case c_law_is => k_is)
    (case k_law_is => k_is)
    (case a_law_draw => k_is)
    (case l_law_draw => k_is)
    (case c_law_draw => k_is)
    (case k_law_draw => k_is)
    (case a_law_begun => k_is)
    (case l_law_begun => k_is)
    (case c_law_begun => k_is)
    (case k_law_begun => k_is)
    (case a_law_task => k_is)
    (case l_law_task => k_is)
    (case c_law_task => k_is)
    (case k_law_task => k_is)
    (case a_law_sum => k_is)
    (case l_law_sum => k_is)
    (case c_law_sum => k_is)
    (case k_law_sum => k_is)
    (case a_law_code => k_is)
    (case l_law_code => k_is)
    (case c_law_code => k_is)
    (case k_law_code => k_is)
    (case a_law_bounds => k_is)
    (case l_law_bounds => k_is)
    (case c_law_bounds => k_is)
    (case k_law_bounds => k_is)
    (case a_law => k_is)
    (case l_law => k_is)
    (case c_law => k_is)
    (case k_law => k_is)
    (case ea_InvalidMessages => k_is)
    (case ex_InvalidMessages => k_exc)
    (case ek_InvalidMessages => k_is)
    (case eb_InvalidMessages => k_is)
    (case et_InvalidMessages => k_is)
    (case g_MOST => k_is)
    (case g_SUMS => k_is)
    (case z_isinstance => k_is)
    (case z_len => k_is)
    (case z_all => k_is)
    (case z_tuple => k_is)
    (case z_list => k_is)
    (case z_sorted => k_is)
    (case z_min => k_is)
    (case z_max => k_is)
    (case z_set => k_is)
    (case z_dict => k_is)
    (case z_int => k_is)
    (case z_bool => k_is)
    (case z_str => k_is)
    (case z_range => k_is)
    (case z_zip => k_is)
    (case z_enumerate => k_is)
    (case z_ValueError => k_is)
