import PyProof.Rows.All
import Wide.All
import OpenK.AllK
import Wide.FinOn
import HandS.ForMost
import HandS.ForExc
import KE.DataMinMax
import KE.SortData
import HandS.Lambda
import HandS.Head0
import HandS.Head1
import HandS.Head2
import HandS.HeadHook1
import HandS.HeadHook2
import HandS.Defaults
import HandS.HeadHook4
import HandS.ExcIs
import HandS.ExcField
import KE.KExcSuper
import KE.KSuper
import HandS.ExcInit
import HandS.ExcOwn
import HandS.Wide
import HandS.Deep
import HandS.IsInst
import HandS.Sort
import HandS.WideBits
import HandS.Flow
import HandS.ExcValue
import HandS.Zip
import HandS.Style
import HandS.Conv
import HandS.SetFor
import HandS.Iter
import HandS.NoneIn
import HandS.Comp
import PyProof.ReprRoads
import PyProof.CallFns
import HandS.Remove
import HandS.Dict
import HandS.HeadEnd
import HandS.EndTab
import KE.KStateDown
import Lean
import PySem.Challenge.RW_alongline_k70_whole_ends_asked_for
set_option linter.all false
set_option maxRecDepth 100000
set_option Elab.async false
set_option linter.all false
/-! Rf: a small value-level evaluator. Own syntax (slots for names), own data with a label on each list
(true: made since the base of the running code), environments of slots: unbound, shared data, an owned list. -/
namespace Rf
open PySem

/-- a list's label: made since the base; any; read-only (the script, a constant of the module) -/
inductive Lb where
  | nu | ol | ro
  deriving DecidableEq, Inhabited
def Lb.age : Lb → Lb
  | .ro => .ro
  | _ => .ol
inductive D where
  | non | bl (b : Bool) | int (i : Int) | str (x : Str) | lst (f : Lb) (xs : List D) | tup (xs : List D) | dct | rng (lo hi : Int)
  deriving Inhabited

mutual
def D.py : D → PyData
  | .non => .none
  | .bl b => .bool b
  | .int i => .int i
  | .str x => .str x
  | .lst _ xs => .list (D.pys xs)
  | .tup xs => .tuple (D.pys xs)
  | .dct => .dict []
  | .rng _ _ => .none
def D.pys : List D → List PyData
  | [] => []
  | x :: xs => D.py x :: D.pys xs
end
mutual
def D.age : D → D
  | .non => .non
  | .bl b => .bl b
  | .int i => .int i
  | .str x => .str x
  | .lst f xs => .lst f.age (D.ages xs)
  | .tup xs => .tup (D.ages xs)
  | .dct => .dct
  | .rng i j => .rng i j
def D.ages : List D → List D
  | [] => []
  | x :: xs => D.age x :: D.ages xs
end
def D.scal : D → Bool
  | .non | .bl _ | .int _ | .str _ => true
  | _ => false

mutual
def D.same : D → D → Bool
  | .non, .non => true
  | .bl a, .bl b => decide (a = b)
  | .int a, .int b => decide (a = b)
  | .str a, .str b => decide (a = b)
  | .lst f a, .lst g b => decide (f = g) && D.sames a b
  | .tup a, .tup b => D.sames a b
  | .dct, .dct => true
  | .rng a b, .rng c d => decide (a = c) && decide (b = d)
  | _, _ => false
def D.sames : List D → List D → Bool
  | [], [] => true
  | x :: xs, y :: ys => D.same x y && D.sames xs ys
  | _, _ => false
end
mutual
theorem D.same_iff : ∀ a b : D, D.same a b = true ↔ a = b
  | .non, b => by cases b <;> simp [D.same]
  | .bl _, b => by cases b <;> simp [D.same]
  | .int _, b => by cases b <;> simp [D.same]
  | .str _, b => by cases b <;> simp [D.same]
  | .lst f a, b => by cases b <;> simp [D.same]; rename_i g b; rw [D.sames_iff a b]; exact fun _ => Iff.rfl
  | .tup a, b => by cases b <;> simp [D.same]; rename_i b; exact D.sames_iff a b
  | .dct, b => by cases b <;> simp [D.same]
  | .rng _ _, b => by cases b <;> simp [D.same]
theorem D.sames_iff : ∀ a b : List D, D.sames a b = true ↔ a = b
  | [], b => by cases b <;> simp [D.sames]
  | x :: xs, b => by
    cases b with
    | nil => simp [D.sames]
    | cons y ys => simp [D.sames, D.same_iff x y, D.sames_iff xs ys]
end
instance : DecidableEq D := fun a b => if h : D.same a b = true then .isTrue ((D.same_iff a b).mp h) else .isFalse (fun e => h ((D.same_iff a b).mpr e))

inductive SV where
  | un | sh (d : D) | ow (ds : List D)
  deriving DecidableEq, Inhabited
abbrev Envr := List SV

inductive Rs where
  | fz (d : D) | nw (ds : List D) | sl (i : Nat)
  deriving Inhabited

inductive Res (α : Type) where
  | ok (a : α) (δ : Envr) | exn (c : Nat) (d : D) (δ : Envr) | bad (n : Nat)
  deriving Inhabited
abbrev M (α : Type) := Envr → Res α
@[inline] def M.bind {α β : Type} (m : M α) (f : α → M β) : M β := fun δ => match m δ with
  | .ok a δ' => f a δ'
  | .exn c d δ' => .exn c d δ'
  | .bad n => .bad n
instance : Monad M where
  pure a := fun δ => .ok a δ
  bind := M.bind
def fail {α : Type} (n : Nat) : M α := fun _ => .bad n
def ofO {α : Type} (n : Nat) (o : Option α) : M α := fun δ => match o with
  | some a => .ok a δ
  | none => .bad n

/-- a list is at most so long -/
def lim : Nat := 16000000

def rd (δ : Envr) : Rs → Option D
  | .fz d => some d
  | .nw ds => some (.lst .nu ds)
  | .sl i => match δ[i]? with
    | some (.sh d) => some d
    | some (.ow ds) => some (.lst .nu ds)
    | _ => none
def rdM (r : Rs) : M D := fun δ => match rd δ r with
  | some d => .ok d δ
  | none => .bad 1
/-- hand on for keeping: an owned list becomes shared -/
def esc (r : Rs) : M D := fun δ => match r with
  | .fz d => .ok d δ
  | .nw ds => .ok (.lst .nu ds) δ
  | .sl i => match δ[i]? with
    | some (.sh d) => .ok d δ
    | some (.ow ds) => .ok (.lst .nu ds) (δ.set i (.sh (.lst .nu ds)))
    | _ => .bad 2

inductive BOp | add | sub | mul | fdiv | mod | pow
  deriving DecidableEq
inductive COp | eq | ne | lt | le | gt | ge | is_ | isnt | in_ | notin
  deriving DecidableEq
inductive Ty | int | bool | list | tuple | str
  deriving DecidableEq
inductive Bi | range1 | len | abs | max2 | min2 | maxL | minL | sum | sumL | sorted | toTuple | int | str | repr | lenset
  deriving DecidableEq
inductive Mt | index | count | bitlen | join | split | endswith
  deriving DecidableEq

inductive OR where
  | val (d : D) | new (ds : List D)
def OR.rs : OR → Rs
  | .val d => .fz d
  | .new ds => .nw ds

def D.truth : D → Option Bool
  | .non => some false
  | .bl b => some b
  | .int i => some (i != 0)
  | .str x => if x.length ≤ lim then some ((x.length : Int) != 0) else none
  | .lst _ xs => some (!xs.isEmpty)
  | .tup xs => some (!xs.isEmpty)
  | .dct => some false
  | .rng _ _ => none
def truM (r : Rs) : M Bool := fun δ => match rd δ r with
  | some d => (match d.truth with
    | some b => .ok b δ
    | none => .bad 1)
  | none => .bad 1
def D.eqv (a b : D) : Bool := PyData.eqv a.py b.py
mutual
def D.dep : D → Nat
  | .lst _ xs => D.deps xs + 1
  | .tup xs => D.deps xs + 1
  | .dct => 1000
  | .rng _ _ => 1000
  | .str x => if PyData.strOk x then 0 else 1000
  | _ => 0
def D.deps : List D → Nat
  | [] => 0
  | x :: xs => max (D.dep x) (D.deps xs)
end
/-- may be compared -/
def D.okE (d : D) : Bool := decide (d.dep ≤ 50)
def small (i : Int) : Bool := decide (-(2 ^ 62) ≤ i) && decide (i < 2 ^ 62)
def ranged (a b : Int) : List D := (List.range (b - a).toNat).map fun (k : Nat) => .int (a + k)
def D.items : D → Option (List D)
  | .rng a b => if small a && small b then some (ranged a b) else none
  | .lst _ xs => some xs
  | .tup xs => some xs
  | .str x => some (x.cps.toList.map fun c => .str ⟨#[c]⟩)
  | _ => none
def big : Nat := 2 ^ 4096
def mulOk (i j : Int) : Bool := decide (i.natAbs < 2 ^ 64) || decide (j.natAbs < 2 ^ 64) || (decide (i.natAbs < big) && decide (j.natAbs < big))
def rep (ds : List D) (n : Nat) : List D := (List.replicate n ds).flatten
def tracked : Lb → Bool
  | .ro => false
  | _ => true
def bo_add : D → D → Option OR
  | .int i, .int j => some (.val (.int (i + j)))
  | .str x, .str y => if x.length + y.length ≤ lim then some (.val (.str (x ++ y))) else none
  | .lst f xs, .lst g ys => if tracked f && tracked g && decide (xs.length + ys.length ≤ lim) then some (.new (xs ++ ys)) else none
  | .tup xs, .tup ys => if xs ≠ [] ∧ ys ≠ [] ∧ xs.length + ys.length ≤ lim then some (.val (.tup (xs ++ ys))) else none
  | _, _ => none
def bo_sub : D → D → Option OR
  | .int i, .int j => some (.val (.int (i - j)))
  | _, _ => none
def bo_mul : D → D → Option OR
  | .int i, .int j => if mulOk i j then some (.val (.int (i * j))) else none
  | .lst f xs, .int j => if tracked f && decide (xs.length * j.toNat ≤ lim) && decide (-(2 ^ 63) ≤ j) && decide (j < 2 ^ 63) then some (.new (rep xs j.toNat)) else none
  | _, _ => none
def bo_fdiv : D → D → Option OR
  | .int i, .int j => if 0 < j ∧ j.natAbs < big then some (.val (.int (i / j))) else none
  | _, _ => none
def bo_mod : D → D → Option OR
  | .int i, .int j => if 0 < j then some (.val (.int (i % j))) else none
  | _, _ => none
def bo_pow : D → D → Option OR
  | .int i, .int j => if 0 ≤ j ∧ i.natAbs < 2 ^ 256 ∧ j ≤ 1000 then some (.val (.int (i ^ j.toNat))) else none
  | _, _ => none
def BOp.run : BOp → D → D → Option OR
  | .add => bo_add
  | .sub => bo_sub
  | .mul => bo_mul
  | .fdiv => bo_fdiv
  | .mod => bo_mod
  | .pow => bo_pow
def isSub (x y : Str) : Bool := !(Builtin.Str.occurrences y x 0 y.length 1).isEmpty
def co_eq : D → D → Option Bool
  | a, b => if a.okE && b.okE then some (a.eqv b) else none
def co_ne : D → D → Option Bool
  | a, b => if a.okE && b.okE then some (!a.eqv b) else none
def co_lt : D → D → Option Bool
  | .int i, .int j => some (decide (i < j))
  | _, _ => none
def co_le : D → D → Option Bool
  | .int i, .int j => some (decide (i ≤ j))
  | _, _ => none
def co_gt : D → D → Option Bool
  | .int i, .int j => some (decide (j < i))
  | _, _ => none
def co_ge : D → D → Option Bool
  | .int i, .int j => some (decide (j ≤ i))
  | _, _ => none
def co_is_ : D → D → Option Bool
  | a, .non => some (decide (a = .non))
  | a, .bl b => some (decide (a = .bl b))
  | _, _ => none
def co_isnt : D → D → Option Bool
  | a, .non => some (!decide (a = .non))
  | a, .bl b => some (!decide (a = .bl b))
  | _, _ => none
def co_in_ : D → D → Option Bool
  | a, .lst f xs => if a.okE && (D.lst f xs).okE then some (xs.any fun z => z.eqv a) else none
  | a, .tup xs => if a.okE && (D.tup xs).okE then some (xs.any fun z => z.eqv a) else none
  | .str x, .str y => some (isSub x y)
  | _, _ => none
def co_notin : D → D → Option Bool
  | a, .lst f xs => if a.okE && (D.lst f xs).okE then some (!xs.any fun z => z.eqv a) else none
  | a, .tup xs => if a.okE && (D.tup xs).okE then some (!xs.any fun z => z.eqv a) else none
  | .str x, .str y => some (!isSub x y)
  | _, _ => none
def COp.run : COp → D → D → Option Bool
  | .eq => co_eq
  | .ne => co_ne
  | .lt => co_lt
  | .le => co_le
  | .gt => co_gt
  | .ge => co_ge
  | .is_ => co_is_
  | .isnt => co_isnt
  | .in_ => co_in_
  | .notin => co_notin
def Ty.has : Ty → D → Bool
  | .int, .int _ => true
  | .int, .bl _ => true
  | .bool, .bl _ => true
  | .list, .lst _ _ => true
  | .tuple, .tup _ => true
  | .str, .str _ => true
  | _, _ => false
def D.isRng : D → Bool
  | .rng _ _ => true
  | _ => false
def getIx : D → D → Option D
  | .lst _ xs, .int i => L2.atI xs i
  | .tup xs, .int i => L2.atI xs i
  | .str x, .int i => if x.length ≤ lim then (L2.atI x.cps.toList i).map fun c => .str ⟨#[c]⟩ else none
  | _, _ => none
/-- a slice -/
def cutG {α : Type} (xs : List α) (lo hi : Option Int) : List α := (xs.drop (HT.sIx xs.length 0 lo)).take (HT.sIx xs.length xs.length hi - HT.sIx xs.length 0 lo)
def slice (d : D) (lo hi : Option Int) : Option OR := match d with
  | .lst _ xs => some (.new (cutG xs lo hi))
  | .tup xs => if HT.sIx xs.length 0 lo = 0 ∧ HT.sIx xs.length xs.length hi = xs.length then none else some (.val (.tup (cutG xs lo hi)))
  | .str x => if x.length ≤ lim then some (.val (.str (L2.cutS x lo hi))) else none
  | _ => none
def ints? : List D → Option (List Int)
  | [] => some []
  | .int i :: r => (ints? r).map (i :: ·)
  | _ :: _ => none
def lists? : List D → Option (List (List D))
  | [] => some []
  | .lst f x :: r => if tracked f then (lists? r).map (x :: ·) else none
  | _ :: _ => none
mutual
/-- no list within -/
def D.flat : D → Bool
  | .lst _ _ => false
  | .tup xs => D.flats xs
  | .dct => false
  | .rng _ _ => false
  | _ => true
def D.flats : List D → Bool
  | [] => true
  | x :: xs => D.flat x && D.flats xs
end
def D.lt (a b : D) : Bool := W.dataLt a.py b.py
/-- data that are in order one with another -/
def D.alike (xs : List D) : Bool := (xs.all fun x => xs.all fun y => W.alike x.py y.py) && (xs.all fun x => match x with | .non => false | .rng _ _ => false | _ => true) && decide (D.deps xs ≤ 50)
/-- tuples with an item all, or none a tuple -/
def D.sortk (xs : List D) : Bool := (xs.all fun x => match x with | .tup (_ :: _) => true | _ => false) || (xs.all fun x => match x with | .tup _ => false | .non => false | .rng _ _ => false | _ => true)
/-- the first least, the first greatest -/
def least : D → List D → D
  | m, [] => m
  | m, x :: r => least (if D.lt x m then x else m) r
def most : D → List D → D
  | m, [] => m
  | m, x :: r => most (if D.lt m x then x else m) r
def sortD (xs : List D) : List D := xs.mergeSort (W.dataLe false D.py)
def distinct : List D → List D
  | [] => []
  | x :: r => if r.any fun y => y.eqv x then distinct r else x :: distinct r
def allInts (xs : List D) : Bool := (ints? xs).isSome
def bi_range1 : List D → Option OR
  | [.int i] => if small i then some (.val (.rng 0 i)) else none
  | _ => none
def bi_len : List D → Option OR
  | [.lst _ xs] => some (.val (.int xs.length))
  | [.tup xs] => some (.val (.int xs.length))
  | [.str x] => if x.length ≤ lim then some (.val (.int x.length)) else none
  | _ => none
def bi_abs : List D → Option OR
  | [.int i] => some (.val (.int (if i < 0 then -i else i)))
  | _ => none
def bi_max2 : List D → Option OR
  | [.int i, .int j] => some (.val (.int (if j > i then j else i)))
  | _ => none
def bi_min2 : List D → Option OR
  | [.int i, .int j] => some (.val (.int (if j < i then j else i)))
  | _ => none
def bi_maxL : List D → Option OR
  | [.lst _ (x :: r)] => if D.alike (x :: r) && D.flats (x :: r) then some (.val (most x r)) else none
  | _ => none
def bi_minL : List D → Option OR
  | [.lst _ (x :: r)] => if D.alike (x :: r) && D.flats (x :: r) then some (.val (least x r)) else none
  | _ => none
def bi_sum : List D → Option OR
  | [.lst _ xs] => (ints? xs).map fun is => .val (.int is.sum)
  | _ => none
def bi_sumL : List D → Option OR
  | [.lst _ xs] => (lists? xs).bind fun ls => if ls.flatten.length ≤ lim then some (.new ls.flatten) else none
  | _ => none
def bi_sorted : List D → Option OR
  | [.lst _ xs] => if D.alike xs && D.sortk xs then some (.new (sortD xs)) else none
  | _ => none
def bi_toTuple : List D → Option OR
  | [.lst _ xs] => some (.val (.tup xs))
  | [.tup xs] => some (.val (.tup xs))
  | _ => none
def bi_int : List D → Option OR
  | [.int i] => some (.val (.int i))
  | [.bl b] => some (.val (.int (if b then 1 else 0)))
  | _ => none
def bi_str : List D → Option OR
  | [.int i] => if i.natAbs.log2 < 1920 then some (.val (.str (toString i))) else none
  | _ => none
def bi_repr : List D → Option OR
  | [d] => if d.okE && d.py.showable && decide (d.py.shown.length ≤ lim) then some (.val (.str d.py.shown)) else if d = .dct then some (.val (.str "{}")) else none
  | _ => none
def bi_lenset : List D → Option OR
  | [.lst _ xs] => if xs.length ≤ 4000 then (ints? xs).map fun is => .val (.int ((is.foldl PyProof.Rows.step_dedup []).length : Nat)) else none
  | _ => none
def Bi.run : Bi → List D → Option OR
  | .range1 => bi_range1
  | .len => bi_len
  | .abs => bi_abs
  | .max2 => bi_max2
  | .min2 => bi_min2
  | .maxL => bi_maxL
  | .minL => bi_minL
  | .sum => bi_sum
  | .sumL => bi_sumL
  | .sorted => bi_sorted
  | .toTuple => bi_toTuple
  | .int => bi_int
  | .str => bi_str
  | .repr => bi_repr
  | .lenset => bi_lenset
def me_index : D → List D → Option OR
  | .lst f xs, [y] => if y.okE && (D.lst f xs).okE then (xs.findIdx? fun z => z.eqv y).map fun (k : Nat) => OR.val (.int k) else none
  | _, _ => none
def me_count : D → List D → Option OR
  | .lst f xs, [y] => if y.okE && (D.lst f xs).okE then some (.val (.int (xs.countP fun z => z.eqv y))) else none
  | _, _ => none
def me_bitlen : D → List D → Option OR
  | .int i, [] => some (.val (.int (Builtin.Int.intBits i)))
  | _, _ => none
def me_join : D → List D → Option OR := fun _ _ => none
def me_split : D → List D → Option OR := fun _ _ => none
def me_endswith : D → List D → Option OR := fun _ _ => none
def Mt.run : Mt → D → List D → Option OR
  | .index => me_index
  | .count => me_count
  | .bitlen => me_bitlen
  | .join => me_join
  | .split => me_split
  | .endswith => me_endswith
/-- the receiver's kind -/
def Mt.recv : Mt → D → Bool
  | .index, .lst _ _ => true
  | .count, .lst _ _ => true
  | .bitlen, .int _ => true
  | .join, .str _ => true
  | .split, .str _ => true
  | .endswith, .str _ => true
  | _, _ => false
/-! ### syntax -/
inductive Tg where
  | nm (i : Nat) | tp (is : List Nat)
  deriving DecidableEq
mutual
inductive Ex where
  | var (i : Nat) | cst (g : Nat) (d : D) | int (i : Int) | str (x : Str) | bl (b : Bool) | non | dct
  | bin (op : BOp) (a b : Ex) | neg (a : Ex) | not (a : Ex)
  | cmp (op : COp) (a b : Ex) | chain (o1 o2 : COp) (a b c : Ex)
  | bop (conj : Bool) (es : Exs)
  | ite (c a b : Ex)
  | lst (es : Exs) | tup (es : Exs)
  | idx (a i : Ex) | slc (a : Ex) (lo hi : OEx) | rev (a : Ex)
  | comp (tg : Tg) (it : It) (cs : Exs) (e : Ex)
  | call (f : Nat) (kw : List Nat) (args : Exs)
  | ioa (i : Nat)
  | bi (b : Bi) (args : Exs)
  | mt (m : Mt) (o : Ex) (args : Exs)
  | isi (ts : List Ty) (e : Ex)
  | lof (it : It)
  | lcp (a : Ex)
  | pop (i : Nat) (e : Ex)
  | tmp (e : Ex)
  | apf (a e : Ex)
  | rfd (call word val : Ex) (al : Nat) (ws : List Str)
  | rfa (calls : Exs) (word val : Ex) (al : Nat) (ws : List Str)
inductive Exs where
  | nil | cons (e : Ex) (es : Exs)
inductive OEx where
  | no | so (e : Ex)
inductive It where
  | rng1 (a : Ex) | rng2 (a b : Ex) | seq (e : Ex) | enum (e : Ex) | zip (a b : Ex)
end
mutual
inductive St where
  | ex (e : Ex) | asg (own : Bool) (i : Nat) (e : Ex) | asgT (is : List Nat) (e : Ex) | par (own : List Bool) (is : List Nat) (es : Exs)
  | setI (i : Nat) (k e : Ex) | app (i : Nat) (e : Ex) | rem (i : Nat) (e : Ex)
  | ite (c : Ex) (a b : Sts) | for_ (tg : Tg) (it : It) (body : Sts) | whl (c : Ex) (body : Sts)
  | ret (e : Ex) | rse (c : Nat) (e : Ex) | brk | pas
  | scr (keep : List Nat) (p e : Ex) | scrs (keep : List Nat) (i : Nat) (p e : Ex)
inductive Sts where
  | nil | cons (s : St) (r : Sts) | blk (nas : List Nat) (b : Sts) (r : Sts)
end

/-! ### running -/
inductive Arg where
  | v (d : D) | s (i : Nat)
inductive FR where
  | ret (r : Rs) (as : List SV) | exn (c : Nat) (d : D) (as : List SV) | bad (n : Nat)
  deriving Inhabited
abbrev CF := Nat → List SV → FR
def retO (n : Nat) (o : Option OR) : M Rs := fun δ => match o with
  | some r => .ok r.rs δ
  | none => .bad n
def setAll (δ : Envr) : List Nat → List SV → Envr
  | i :: is, v :: vs => setAll (δ.set i v) is vs
  | _, _ => δ
/-- bind a target to a piece of data -/
def Tg.put (tg : Tg) (d : D) : M Unit := fun δ => match tg with
  | .nm i => .ok () (δ.set i (.sh d))
  | .tp is => match d with
    | .tup ds => if ds.length = is.length then .ok () (setAll δ is (ds.map .sh)) else .bad 3
    | .lst _ ds => if ds.length = is.length then .ok () (setAll δ is (ds.map .sh)) else .bad 3
    | _ => .bad 4
def Tg.slots : Tg → List Nat
  | .nm i => [i]
  | .tp is => is
/-- the slots of a comprehension's own names: kept aside, emptied, put back -/
def shOnly : Option SV → SV
  | some (.sh d) => .sh d
  | _ => .un
def Tg.aside (tg : Tg) : M (List SV) := fun δ => .ok (tg.slots.map fun i => shOnly δ[i]?) (setAll δ tg.slots (tg.slots.map fun _ => .un))
def Tg.clear (tg : Tg) : M Unit := fun δ => .ok () (setAll δ tg.slots (tg.slots.map fun _ => .un))
def Tg.backs (tg : Tg) (vs : List SV) : M Unit := fun δ => .ok () (setAll δ tg.slots vs)
def watch (w : Option (Nat × List D)) : M Unit := fun δ => match w with
  | none => .ok () δ
  | some (i, ds) => if δ[i]? = some (.ow ds) then .ok () δ else .bad 5
/-- in a comprehension nothing may be raised -/
def noExn {α : Type} (m : M α) : M α := fun δ => match m δ with
  | .exn _ _ _ => .bad 29
  | r => r
def compL (w : Option (Nat × List D)) (f : D → M (Option D)) : List D → M (List D)
  | [] => pure []
  | x :: xs => do
    let o ← f x
    watch w
    let r ← compL w f xs
    pure (match o with | some d => d :: r | none => r)
def argSV (δ : Envr) : Arg → Option SV
  | .v d => some (.sh d.age)
  | .s i => match δ[i]? with
    | some (.ow ds) => some (.ow (D.ages ds))
    | _ => none
def argsSV (δ : Envr) : List Arg → Option (List SV)
  | [] => some []
  | a :: r => match argSV δ a, argsSV δ r with
    | some v, some vs => some (v :: vs)
    | _, _ => none
def putBack : List Arg → List SV → Envr → Envr
  | .s i :: r, v :: vs, δ => putBack r vs (δ.set i v)
  | .v _ :: r, _ :: vs, δ => putBack r vs δ
  | _, _, δ => δ
def isIo : Arg → Bool
  | .s _ => true
  | _ => false
def nIo (as : List Arg) : Nat := as.countP isIo
def oneIo (as : List Arg) : Bool := decide (nIo as ≤ 1)
/-- arguments handed by keywords: in the parameters' order (kw: the parameter of each) -/
def pick {α : Type} (kw : List Nat) (xs : List α) : List Nat → Option (List α)
  | [] => some []
  | p :: ps => match (kw.findIdx? (· == p)).bind fun k => xs[k]?, pick kw xs ps with
    | some x, some r => some (x :: r)
    | _, _ => none
def order {α : Type} (kw : List Nat) (as : List α) : Option (List α) := if kw.isEmpty then some as else pick kw as (List.range as.length)
def callF (cf : CF) (f : Nat) (as : List Arg) : M Rs := fun δ => if oneIo as then match argsSV δ as with
    | none => .bad 6
    | some vs => match cf f vs with
      | .ret (.sl _) _ => .bad 49
      | .ret r ws => .ok r (putBack as ws δ)
      | .exn c d ws => .exn c d (putBack as ws δ)
      | .bad n => .bad n
  else .bad 7
/-- a slot that owns its list -/
def needOw (i : Nat) : M Unit := fun δ => match δ[i]? with
  | some (.ow _) => .ok () δ
  | _ => .bad 46
def enumd : Nat → List D → List D
  | _, [] => []
  | n, x :: r => .tup [.int n, x] :: enumd (n + 1) r
def zipd : List D → List D → List D
  | x :: xs, y :: ys => .tup [x, y] :: zipd xs ys
  | _, _ => []
/-- a slot's own list is watched -/
def ownW (δ : Envr) : Rs → Option (Nat × List D)
  | .sl i => match δ[i]? with
    | some (.ow ds) => some (i, ds)
    | _ => none
  | _ => none
def seqW (r : Rs) : M (List D × Option (Nat × List D)) := fun δ => match rd δ r with
  | none => .bad 8
  | some d => match d.items with
    | none => .bad 9
    | some xs => .ok (xs, ownW δ r) δ
def lstW (r : Rs) : M (List D × Option (Nat × List D)) := fun δ => match rd δ r with
  | some (.lst _ xs) => .ok (xs, ownW δ r) δ
  | _ => .bad 9
/-- slots while lists are let go: a slot's own list is shared for that while -/
def tmpS : SV → SV
  | .ow ds => .sh (.lst .nu ds)
  | s => s
def lamS : SV → SV
  | .ow ds => .sh (.lst .ol (D.ages ds))
  | .sh d => .sh d.age
  | .un => .un
def letGo (m : M Rs) : M Rs := fun δ => match m (δ.map tmpS) with
  | .ok (.fz d) _ => if d.scal then .ok (.fz d) δ else .bad 50
  | .ok _ _ => .bad 51
  | .exn c d δ' => .exn c d δ'
  | .bad n => .bad n
/-- what a call came to: let, or the word of the error's class with its value -/
def caughtM (ws : List Str) (m : M Rs) : M (Str × D) := fun δ => match m (δ.map lamS) with
  | .ok _ _ => .ok ("let", .non) δ
  | .exn c d _ => (match ws[c]? with
    | some w => .ok (w, d) δ
    | none => .bad 52)
  | .bad n => .bad n
/-- told[0] == word and alike(told[1], value) -/
def refV (cf : CF) (al : Nat) (t : Str) (d dw dv : D) : Option Bool := match co_eq (.str t) dw.age with
  | none => none
  | some false => some false
  | some true => (match cf al [.sh d.age, .sh dv.age] with
    | .ret (.fz (.bl b)) _ => some b
    | _ => none)
section
variable (cf : CF)
mutual
def ev : Ex → M Rs
  | .var i => fun δ => match δ[i]? with
    | some (.sh d) => .ok (.fz d) δ
    | some (.ow _) => .ok (.sl i) δ
    | _ => .bad 10
  | .cst _ d => pure (.fz d)
  | .int i => pure (.fz (.int i))
  | .str x => pure (.fz (.str x))
  | .bl b => pure (.fz (.bl b))
  | .non => pure (.fz .non)
  | .dct => pure (.fz .dct)
  | .bin op a b => do
    let ra ← ev a
    let rb ← ev b
    let da ← rdM ra
    let db ← rdM rb
    retO 11 (op.run da db)
  | .neg a => do
    let ra ← ev a
    let da ← rdM ra
    match da with
    | .int i => pure (.fz (.int (-i)))
    | _ => fail 12
  | .not a => do
    let ra ← ev a
    let b ← truM ra
    pure (.fz (.bl (!b)))
  | .cmp op a b => do
    let ra ← ev a
    let rb ← ev b
    let da ← rdM ra
    let db ← rdM rb
    let r ← ofO 13 (op.run da db)
    pure (.fz (.bl r))
  | .chain o1 o2 a b c => do
    let ra ← ev a
    let rb ← ev b
    let da ← rdM ra
    let db ← rdM rb
    let r ← ofO 13 (o1.run da db)
    if r then do
      let rc ← ev c
      let db2 ← rdM rb
      let dc ← rdM rc
      let r2 ← ofO 13 (o2.run db2 dc)
      pure (.fz (.bl r2))
    else pure (.fz (.bl false))
  | .bop k es => evB k es
  | .ite c a b => do
    let rc ← ev c
    let t ← truM rc
    if t then ev a else ev b
  | .lst es => do
    let ds ← evD es
    pure (.nw ds)
  | .tup es => do
    let ds ← evD es
    pure (.fz (.tup ds))
  | .idx a i => do
    let ra ← ev a
    let ri ← ev i
    let da ← rdM ra
    let di ← rdM ri
    let d ← ofO 14 (getIx da di)
    pure (.fz d)
  | .slc a lo hi => do
    let ra ← ev a
    let lo ← evO lo
    let hi ← evO hi
    let da ← rdM ra
    retO 15 (slice da lo hi)
  | .rev a => do
    let ra ← ev a
    let da ← rdM ra
    match da with
    | .lst _ xs => pure (.nw xs.reverse)
    | _ => fail 16
  | .comp tg it cs e => do
    let (xs, w) ← evI it
    let sv ← tg.aside
    watch w
    let r ← compL w (fun x => noExn (do
      tg.put x
      let b ← evC cs
      let o ← (if b then do
        let re ← ev e
        let d ← esc re
        pure (some d)
      else pure none)
      tg.clear
      pure o)) xs
    tg.backs sv
    if r.length ≤ lim then pure (.nw r) else fail 28
  | .call f kw args => do
    let as ← evA args
    let as ← ofO 17 (order kw as)
    callF cf f as
  | .ioa _ => fail 18
  | .bi b args => do
    let ds ← evR args
    retO 19 (b.run ds)
  | .mt m o args => do
    let ro ← ev o
    let d0 ← rdM ro
    if m.recv d0 then do
      let ds ← evR args
      let d ← rdM ro
      retO 20 (m.run d ds)
    else fail 20
  | .isi ts e => do
    let r ← ev e
    let d ← rdM r
    if d.isRng then fail 45 else pure (.fz (.bl (ts.any fun t => t.has d)))
  | .lof it => do
    let (xs, _) ← evI it
    if xs.length ≤ lim then pure (.nw xs) else fail 28
  | .lcp a => do
    let r ← ev a
    let d ← rdM r
    match d with
    | .lst _ xs => pure (.nw xs)
    | .tup xs => pure (.nw xs)
    | _ => fail 47
  | .pop i e => do
    needOw i
    let r ← ev e
    let k ← rdM r
    fun δ => match k, δ[i]? with
      | .int k, some (.ow ds) => if ds.length ≤ lim then (match (L2.ixN ds.length k) with
        | some j => (match ds[j]? with
          | some d => .ok (.fz d) (δ.set i (.ow (ds.eraseIdx j)))
          | none => .bad 21)
        | none => .bad 21) else .bad 34
      | _, _ => .bad 22
  | .tmp e => letGo (ev e)
  | .apf a e => do
    let ra ← ev a
    match ra with
    | .nw ds => do
      let r ← ev e
      let _ ← esc r
      if ds.length < lim then pure (.fz .non) else fail 34
    | _ => fail 53
  | .rfd call word val al ws => do
    let rw ← ev word
    let dw ← esc rw
    let rv ← ev val
    let dv ← esc rv
    let (t, d) ← caughtM ws (ev call)
    let b ← ofO 54 (refV cf al t d dw dv)
    pure (.fz (.bl b))
  | .rfa calls word val al ws => do
    let rw ← ev word
    let dw ← esc rw
    let rv ← ev val
    let dv ← esc rv
    let _ ← evF al ws dw dv calls
    pure (.fz (.bl true))
/-- all of them are refused as asked -/
def evF (al : Nat) (ws : List Str) (dw dv : D) : Exs → M Unit
  | .nil => pure ()
  | .cons e es => do
    let (t, d) ← caughtM ws (ev e)
    let b ← ofO 54 (refV cf al t d dw dv)
    if b then evF al ws dw dv es else fail 55
/-- items of a display: kept -/
def evD : Exs → M (List D)
  | .nil => pure []
  | .cons e es => do
    let r ← ev e
    let d ← esc r
    let ds ← evD es
    pure (d :: ds)
/-- arguments of a def -/
def evA : Exs → M (List Arg)
  | .nil => pure []
  | .cons (.ioa i) es => do
    needOw i
    let as ← evA es
    pure (.s i :: as)
  | .cons e es => do
    let r ← ev e
    let d ← esc r
    let as ← evA es
    pure (.v d :: as)
/-- arguments that are only read -/
def evR : Exs → M (List D)
  | .nil => pure []
  | .cons e es => do
    let r ← ev e
    let ds ← evR es
    let d ← rdM r
    pure (d :: ds)
def evB (k : Bool) : Exs → M Rs
  | .nil => fail 23
  | .cons e .nil => ev e
  | .cons e es => do
    let r ← ev e
    let t ← truM r
    if t == k then evB k es else do
      let d ← esc r
      pure (.fz d)
def evC : Exs → M Bool
  | .nil => pure true
  | .cons e es => do
    let r ← ev e
    let t ← truM r
    if t then evC es else pure false
def evO : OEx → M (Option Int)
  | .no => pure none
  | .so e => do
    let r ← ev e
    let d ← rdM r
    match d with
    | .int i => pure (some i)
    | _ => fail 24
def evI : It → M (List D × Option (Nat × List D))
  | .rng1 a => do
    let r ← ev a
    let d ← rdM r
    match d with
    | .int i => if small i then pure (ranged 0 i, none) else fail 25
    | _ => fail 26
  | .rng2 a b => do
    let ra ← ev a
    let rb ← ev b
    let da ← rdM ra
    let db ← rdM rb
    match da, db with
    | .int i, .int j => if small i && small j then pure (ranged i j, none) else fail 25
    | _, _ => fail 26
  | .seq e => do
    let r ← ev e
    seqW r
  | .enum e => do
    let r ← ev e
    let (xs, w) ← lstW r
    pure (enumd 0 xs, w)
  | .zip a b => do
    let ra ← ev a
    let rb ← ev b
    let da ← esc ra
    let db ← esc rb
    match da, db with
    | .lst _ xs, .lst _ ys => pure (zipd xs ys, none)
    | _, _ => fail 27
end

inductive Out where
  | nx | bk | ret (r : Rs)
  deriving Inhabited
def forL (f : D → M Out) : List D → M Out
  | [] => pure .nx
  | x :: xs => do
    let o ← f x
    match o with
    | .nx => forL f xs
    | .bk => pure .nx
    | .ret r => pure (.ret r)
def whileL (c : M Bool) (b : M Out) : Nat → M Out
  | 0 => fail 30
  | n + 1 => do
    let t ← c
    if t then do
      let o ← b
      match o with
      | .nx => whileL c b n
      | .bk => pure .nx
      | .ret r => pure (.ret r)
    else pure .nx
/-- a list that a for walks is kept -/
def keepW (w : Option (Nat × List D)) : M Unit := fun δ => match w with
  | none => .ok () δ
  | some (i, ds) => .ok () (δ.set i (.sh (.lst .nu ds)))
def turns : Nat := 1000000
def putR (own : Bool) (i : Nat) (r : Rs) : M Unit := match own, r with
  | true, .nw ds => fun δ => .ok () (δ.set i (.ow ds))
  | _, r => do
    let d ← esc r
    fun δ => .ok () (δ.set i (.sh d))
def putRs : List Bool → List Nat → List Rs → M Unit
  | o :: os, i :: is, r :: rs => do
    putR o i r
    putRs os is rs
  | [], [], [] => pure ()
  | _, _, _ => fail 31
/-- values of a parallel assignment: an owned new list stays owned -/
def evP : Exs → M (List Rs)
  | .nil => pure []
  | .cons e es => do
    let r ← ev cf e
    match r with
    | .nw ds => do
      let rs ← evP es
      pure (.nw ds :: rs)
    | r => do
      let d ← esc r
      let rs ← evP es
      pure (.fz d :: rs)
def scalS : SV → SV
  | .sh d => if d.scal then .sh d else .un
  | .ow ds => if ds.all D.scal then .ow ds else .un
  | .un => .un
def keepS (keep : List Nat) (β : Envr) : Nat → Envr → Envr
  | _, [] => []
  | i, v :: r => (if i ∈ keep then (match β[i]? with
      | some (.sh d) => .sh d
      | _ => scalS v) else scalS v) :: keepS keep β (i + 1) r
/-- a list made since the base, not too long to grow -/
def freshL : D → Bool
  | .lst .nu ds => decide (ds.length < lim - 100)
  | _ => false
def ageSV : SV → SV
  | .un => .un
  | .sh d => .sh d.age
  | .ow ds => .ow (D.ages ds)
mutual
def exec (β : Envr) : St → M Out
  | .ex e => do
    let _ ← ev cf e
    pure .nx
  | .asg own i e => do
    let r ← ev cf e
    putR own i r
    pure .nx
  | .asgT is e => do
    let r ← ev cf e
    let d ← esc r
    Tg.put (.tp is) d
    pure .nx
  | .par own is es => do
    let rs ← evP cf es
    putRs own is rs
    pure .nx
  | .setI i k e => do
    let r ← ev cf e
    let d ← esc r
    needOw i
    let rk ← ev cf k
    let dk ← rdM rk
    fun δ => match dk, δ[i]? with
      | .int k, some (.ow ds) => (match L2.ixN ds.length k with
        | some j => .ok .nx (δ.set i (.ow (ds.set j d)))
        | none => .bad 32)
      | _, _ => .bad 33
  | .app i e => do
    needOw i
    let r ← ev cf e
    let d ← esc r
    fun δ => match δ[i]? with
      | some (.ow ds) => if ds.length < lim then .ok .nx (δ.set i (.ow (ds ++ [d]))) else .bad 34
      | _ => .bad 35
  | .rem i e => do
    needOw i
    let r ← ev cf e
    let d ← esc r
    fun δ => match δ[i]? with
      | some (.ow ds) => (match ints? ds, d with
        | some ns, .int k => if k ∈ ns then .ok .nx (δ.set i (.ow ((ns.erase k).map .int))) else .bad 36
        | _, _ => .bad 36)
      | _ => .bad 37
  | .ite c a b => do
    let r ← ev cf c
    let t ← truM r
    if t then execs β a else execs β b
  | .for_ tg it body => do
    let (xs, w) ← evI cf it
    keepW w
    forL (fun x => do
      tg.put x
      execs β body) xs
  | .whl c body => whileL (do
      let r ← ev cf c
      truM r) (execs β body) turns
  | .ret e => do
    let r ← ev cf e
    pure (.ret r)
  | .rse c e => do
    let r ← ev cf e
    let d ← esc r
    fun δ => .exn c d δ
  | .brk => pure .bk
  | .pas => pure .nx
  | .scr keep p e => do
    let r ← ev cf p
    let d ← rdM r
    match r, d with
    | .fz _, .lst .nu ds => if ds.length < lim then (do
        let _ ← ev cf e
        fun δ => .ok .nx (keepS keep β 0 δ)) else fail 38
    | _, _ => fail 39
  | .scrs keep i p e => do
    let r ← ev cf p
    let d ← esc r
    let _ ← ev cf e
    match d.items with
    | some xs => if xs.all freshL then (fun δ => .ok .nx (keepS keep β 0 (δ.set i .un))) else fail 38
    | none => fail 39
def execs (β : Envr) : Sts → M Out
  | .nil => pure .nx
  | .cons s r => do
    let o ← exec β s
    match o with
    | .nx => execs β r
    | o => pure o
  | .blk _ b r => do
    let o ← (fun δ => execs (δ.map ageSV) b (δ.map ageSV))
    match o with
    | .nx => execs β r
    | o => pure o
end
end

/-- a def: its parameters, slots, the slots that are never assigned, its body -/
structure Fn where
  np : Nat
  ns : Nat
  nas : List Nat
  body : Sts
/-- what is handed back of the slots: of the lists that were handed in for changing -/
def maskW (nas : List Nat) : List SV → Nat → Envr → Envr
  | [], _, _ => []
  | .ow _ :: r, i, δ => (if i ∈ nas then (δ[i]?).getD .un else .un) :: maskW nas r (i + 1) δ
  | _ :: r, i, δ => .un :: maskW nas r (i + 1) δ
def back (nas : List Nat) (as : List SV) : Res Out → FR
  | .bad n => .bad n
  | .exn c d δ => .exn c d (maskW nas as 0 δ)
  | .ok .nx δ => .ret (.fz .non) (maskW nas as 0 δ)
  | .ok .bk _ => .bad 40
  | .ok (.ret (.fz d)) δ => .ret (.fz d) (maskW nas as 0 δ)
  | .ok (.ret (.nw ds)) δ => .ret (.nw ds) (maskW nas as 0 δ)
  | .ok (.ret (.sl i)) δ => match δ[i]? with
    | some (.ow ds) => .ret (.nw ds) (maskW nas as 0 (δ.set i .un))
    | some (.sh d) => .ret (.fz d) (maskW nas as 0 δ)
    | _ => .bad 41
def Fn.run (cf : CF) (F : Fn) (as : List SV) : FR :=
  if as.length = F.np then
    let δ := as ++ List.replicate (F.ns - F.np) .un
    back F.nas as (execs cf δ F.body δ)
  else .bad 42
/-- a program run to a depth of calls -/
def depth (P : List Fn) : Nat → CF
  | 0 => fun _ _ => .bad 43
  | k + 1 => fun f as => match P[f]? with
    | some F => F.run (depth P k) as
    | none => .bad 44
end Rf
set_option linter.all false
set_option maxRecDepth 100000
set_option maxHeartbeats 1000000
set_option Elab.async false
/-! Rf soundness, part 0: what a heap keeps: all but the tables of code objects, which grow. -/
namespace Rf
open PySem PySem.Spec PyProof.Rows L2
/-- the object at b is kept; a table may have grown -/
def Kp (o : HO) (H : Hp) (b : Addr) : Prop := H b = some o ∨ ((∃ ps, o = .tbl ps) ∧ ∃ qs, H b = some (.tbl qs))
section
variable {o : HO} {H H1 H2 : Hp} {b : Addr}
theorem Kp.of (h : H b = some o) : Kp o H b := .inl h
theorem Kp.ne (h : Kp o H b) : H b ≠ none := fun z => by
  rcases h with h | ⟨_, qs, h⟩ <;> (rw [z] at h; cases h)
theorem Kp.lst {vs : List V} (h : Kp (.lst vs) H b) : H b = some (.lst vs) := by
  rcases h with h | ⟨⟨ps, e⟩, _⟩
  · exact h
  · cases e
theorem Kp.trans (h : Kp o H1 b) (k : ∀ o1, H1 b = some o1 → Kp o1 H2 b) : Kp o H2 b := by
  rcases h with h | ⟨e, qs, h⟩
  · exact k o h
  · rcases k _ h with h2 | ⟨_, rs, h2⟩
    · exact .inr ⟨e, qs, h2⟩
    · exact .inr ⟨e, rs, h2⟩
theorem Kp.hh (h : Kp o H1 b) (k : ∀ a u, H1 a = some u → H2 a = some u) : Kp o H2 b := h.trans fun o1 z => .inl (k b o1 z)
theorem Kp.upd {a : Addr} {u : HO} (h : Kp o H b) (n : b ≠ a) : Kp o (upd H a u) b := by
  unfold Kp
  rw [upd_ne n]
  exact h
end
/-- the tables of the program's defs, with the name that their lambdas bear -/
def tbl (K : PySem.W.Frag) : List (Addr × Str) := K.filterMap fun q => match q.2.data with
  | .func fd => (match fd.code with
    | .ref c => (match K.lookup c with
      | some ⟨_, _, .fields vs, _⟩ => (match vs.getD 11 .none with
        | .ref P => some (P, (fd.qualname ++ ".<locals>.") ++ "<lambda>")
        | _ => none)
      | _ => none)
    | _ => none)
  | _ => none
structure Tb (K : PySem.W.Frag) (H : Hp) : Prop where
  tabs : LamX.Tabs (tbl K) H
  only : ∀ b ps, H b = some (.tbl ps) → ∃ p ∈ tbl K, p.1 = b
theorem Tb.updL {K : PySem.W.Frag} {H : Hp} {a : Addr} {vs : List V} {o : HO} (t : Tb K H) (h : H a = some (.lst vs)) (ho : ∀ ps, o ≠ .tbl ps) : Tb K (upd H a o) where
  tabs := fun p hp => by
    obtain ⟨ps, h1, h2, h3⟩ := t.tabs p hp
    have ne : ∀ {b : Addr} {u : HO}, H b = some u → (∀ xs, u ≠ .lst xs) → b ≠ a := fun {b u} e n z => by
      rw [z, h] at e
      exact n vs (Option.some.inj e).symm
    refine ⟨ps, by rw [upd_ne (ne h1 fun _ z => by cases z)]; exact h1, h2, fun pos cv hc => ?_⟩
    obtain ⟨c, e1, e2⟩ := h3 pos cv hc
    exact ⟨c, e1, by rw [upd_ne (ne e2 fun _ z => by unfold LamX.CodeO at z; cases z)]; exact e2⟩
  only := fun b ps e => by
    by_cases q : b = a
    · subst q
      rw [upd_same] at e
      exact absurd (Option.some.inj e) (ho ps)
    · rw [upd_ne q] at e
      exact t.only b ps e
theorem Tb.kp {K : PySem.W.Frag} {H H' : Hp} (t : Tb K H) (e : ∀ b o, H b = some o → H' b = some o) (nt : ∀ b ps, H' b = some (.tbl ps) → H b = some (.tbl ps)) : Tb K H' := ⟨LamX.Tabs.ext t.tabs e, fun b ps q => t.only b ps (nt b ps q)⟩
end Rf
set_option linter.all false
set_option maxRecDepth 100000
set_option maxHeartbeats 2000000
set_option Elab.async false
/-! Rf: what a head looks at: all of it ahead of the rest, so that the head runs early. -/
namespace Rf
open PySem PySem.Spec PyProof.Rows L2
abbrev Fg := PySem.W.Frag
theorem ba {a b : Bool} (h : (a && b) = true) : a = true ∧ b = true := Bool.and_eq_true_iff.mp h
/-- a def of the program and its own form -/
structure Pd where
  x : Str
  st : Stmt
  N : List Str
  ps : List Str
  F : Fn
structure Gt where
  fns : List Str
  cls : List Str
  gis : List (Str × Int)
  free : List Str
  kws : List (Nat × List Nat × List Str)
  /-- where `_law_refused` stands: the numbers of `_law_alike`, `_law_caught`, `_law_refused` -/
  rfa : Option (Nat × Nat × Nat) := none
  /-- the number of `_law_all_refused` -/
  raa : Option Nat := none
  /-- further classes that the head names -/
  tops : List Str := []
def dOf (p : Pd) : He.DefD := ⟨(p.x, none), p.x, p.x, defArgs p.st, defBody p.st, defScope p.st, [], []⟩
def faOf (g : Gt) (pg : List Pd) : List He.Fa := pg.map (fun p => .glo p.x) ++ (g.cls.map .glo ++ (g.cls.map .keep ++ (g.gis.map (fun q => .int q.1 q.2) ++ (g.free.map .free ++ g.tops.map .glo))))
def iniScope : Scope := { kind := .function, names := [("self", .local), ("value", .local), ("__class__", .free), ("super", .globalImplicit)], isGenerator := false, isCoroutine := false, more := [] }
structure IniD where
  x : Str
  qual : Str
  params : Arguments
  body : List Stmt
abbrev IniW : Type := Option (Str × Str × Arguments × FuncBody × Scope × Addr × List Str × Addr)
def iniA (K : Fg) (x : Str) : Addr := He.ma K (He.ga K x) "__init__"
def iniW (K : Fg) (x : Str) : IniW := match K.lookup (iniA K x) with
  | some ⟨_, _, .func fd, _⟩ => some (fd.name, fd.qualname, fd.params, fd.body, fd.scope, fd.globals, fd.closure.map (·.1), fd.builtins)
  | _ => none
def IniD.val (d : IniD) : IniW := some ("__init__", d.qual, d.params, .stmts d.body, iniScope, mainGlobals, ["__class__"], builtinsNs)
def exB (K : Fg) (C : Addr) : Bool := match K.lookup C with
  | some ⟨.type t, _, .cls cd, sl⟩ => decide (t = "type") && cd.hasDict && !cd.hasDel && (match cd.mro with
    | .ref c :: bm => decide (c = C) && PySem.HandSPX.refsVE bm
    | _ => false) && (match sl.toList with
    | [_, _, _, _, k4, _] => decide (k4 = some (.builtin "ValueError.__new__"))
    | _ => false)
  | _ => false
def fnB (prog : Program) (K : Fg) (C f : Addr) : Bool := match K.lookup f with
  | some ⟨_, _, .func fd, _⟩ => PySem.W.codeIn K fd.code fd.qualname && (match fd.code with
    | .ref c => (match K.lookup c with
      | some ⟨_, _, .fields vs, _⟩ => (match (vs[2]? : Option Value) with
        | some (.str file _) => (prog.main.file : Str) == file
        | _ => false)
      | _ => false)
    | _ => false) && (match fd.closure with
    | [(_, cc)] => (match K.lookup cc with
      | some ⟨_, _, .cell (some (.ref D)), _⟩ => decide (D = C)
      | _ => false)
    | _ => false) && (match fd.defaults with
    | .ref T => (match K.lookup T with
      | some ⟨_, _, .seq its _, _⟩ => decide (its.size = 1)
      | _ => false)
    | _ => false)
  | _ => false
def iniB (prog : Program) (K : Fg) (x : Str) : Bool :=
  exB K (He.ga K x) && He.eqO (PySem.W.findIn K (.ref (He.ga K x)) "__setattr__") (some (some (.builtin "object.__setattr__"))) && decide (PySem.W.subIn K (.ref (He.ga K x)) (.type "BaseException") = some true) && decide (PySem.W.typeIn K (.ref (He.ga K x)) = some (.type "type")) && PySem.W.keepIn K (.ref (He.ga K x)) &&
  He.eqO (PySem.W.findIn K (.ref (He.ga K x)) "__init__") (some (some (.ref (iniA K x)))) && decide (PySem.W.typeIn K (.ref (iniA K x)) = some (.type "function")) && He.eqO (PySem.W.findIn K (.ref (He.ga K x)) "value") (some none) && He.eqO (PySem.W.ks_superIn K (He.ga K x) (He.ga K x) "__init__") (some (some (.builtin "ValueError.__init__"))) &&
  decide (PySem.W.subIn K (.ref (He.ga K x)) (.type "ValueError") = some true) && decide (PySem.W.mroIn K (He.ga K x) (.ref (He.ga K x)) = some true) && He.eqO (PySem.W.nsIn K cStatics "thirdparty.any") (some none) && !(prog.main.scope.names.lookup ("super" : Str)).isSome && fnB prog K (He.ga K x) (iniA K x)
def excB (K : Fg) (D : Addr) : Bool := He.eqO (PySem.W.findIn K (.ref D) "__getattribute__") (some (some (.builtin "BaseException.__getattribute__"))) && He.eqO (PySem.W.findIn K (.ref D) "__getattr__") (some none) && decide (PySem.W.subIn K (.ref D) (.type "BaseException") = some true) && PySem.W.hasDictIn K D &&
  He.eqO (PySem.W.findIn K (.ref D) "__class__") (some (some (.builtin "object.__class__"))) && He.eqO (PySem.W.specialIn K (.builtin "object.__class__") "__get__") (some (some (.builtin "getset_descriptor.__get__"))) && decide (PySem.W.takesIn K (.builtin "object.__class__") = some true) && decide (PySem.W.mroIn K D (.type "object") = some true)
theorem excB_ok {K : Fg} {D : Addr} (h : excB K D = true) : ExcC K D ∧ XfC K D := by
  unfold excB at h
  obtain ⟨h, h8⟩ := ba h
  obtain ⟨h, h7⟩ := ba h
  obtain ⟨h, h6⟩ := ba h
  obtain ⟨h, h5⟩ := ba h
  obtain ⟨h, h4⟩ := ba h
  obtain ⟨h, h3⟩ := ba h
  obtain ⟨h1, h2⟩ := ba h
  exact ⟨⟨He.eqO_ok h1, He.eqO_ok h2, of_decide_eq_true h3, h4, He.eqO_ok h5, He.eqO_ok h6, of_decide_eq_true h7, of_decide_eq_true h8⟩, ⟨He.eqO_ok h1, He.eqO_ok h2, of_decide_eq_true h3, h4⟩⟩
/-- the classes xs: each one's errors are of no other one; all are caught by top -/
def kitX (K : Fg) (xs : List Str) (top : Str) : Bool := xs.all fun x => excB K (He.ga K x) && decide (PySem.W.exmOne K (.ref (He.ga K x)) (.ref (He.ga K top)) = some true) && xs.all fun y => decide (PySem.W.kitOne K (.ref (He.ga K x)) (.ref (He.ga K y)) = some (decide (x = y)))
theorem kitX_ok {K : Fg} {xs : List Str} {top : Str} (h : kitX K xs top = true) : ∀ x ∈ xs, ExcC K (He.ga K x) ∧ XfC K (He.ga K x) ∧ PySem.W.exmOne K (.ref (He.ga K x)) (.ref (He.ga K top)) = some true ∧ ∀ y ∈ xs, PySem.W.kitOne K (.ref (He.ga K x)) (.ref (He.ga K y)) = some (decide (x = y)) := fun x hx => by
  obtain ⟨h1, h2⟩ := ba (List.all_eq_true.mp h x hx)
  obtain ⟨h3, h4⟩ := ba h1
  obtain ⟨e1, e2⟩ := excB_ok h3
  exact ⟨e1, e2, of_decide_eq_true h4, fun y hy => of_decide_eq_true (List.all_eq_true.mp h2 y hy)⟩
def tblU (K : Fg) : Bool := (tbl K).all fun p => (tbl K).all fun q => !decide (p.1 = q.1) || decide (p.2 = q.2)
def tblIn (K : Fg) (tf : List He.Defn) : Bool := (tbl K).all fun p => tf.any fun d => decide ((He.cT K d).2 = p.1)
def tblCov (K : Fg) (tf : List He.Defn) : Bool := tf.all fun d => (tbl K).any fun p => decide (p.1 = (He.cT K d).2)
def tfOf (pg : List Pd) (inis : List IniD) : List He.Defn := pg.map (fun p => ((p.x, none) : He.Defn)) ++ inis.map fun d => ((d.x, some ("__init__" : Str)) : He.Defn)
def exOf (prog : Program) (pg : List Pd) (inis : List IniD) (tops : List Str) (K : Fg) : Bool := tblU K && tblIn K (tfOf pg inis) && tblCov K (tfOf pg inis) && (inis.all fun d => iniB prog K d.x) && tops.all fun y => kitX K (inis.map (·.x)) y
abbrev AlY : Type := He.AlX × List IniW
def asZ (g : Addr → Option Obj) (n : Nat) : List Addr := He.asD g n ++ [cStatics]
def obsY (n : Nat) (fa : List He.Fa) (fn : List He.DefD) (tf : List He.Defn) (ex : Fg → Bool) (inis : List IniD) (g : Addr → Option Obj) : AlY := ((He.obsT fa fn [] (He.frT g (asZ g n)), ex (He.frT g (asZ g n)) && He.tabsB g tf (He.frT g (asZ g n))), inis.map fun d => iniW (He.frT g (asZ g n)) d.x)
theorem says_of {as : List Addr} {fa : List He.Fa} {fn : List He.DefD} {tf : List He.Defn} {ex : Fg → Bool} {w : World} {h : Heap} (e1 : He.obsT fa fn [] (He.frT h.get? as) = He.valT fn [] w) (e2 : (ex (He.frT h.get? as) && He.tabsB h.get? tf (He.frT h.get? as)) = true) : He.SaysX fa fn [] tf ex w h (He.frT h.get? as) := by
  obtain ⟨h1, h2⟩ := ba e2
  have key : ∀ p ∈ tf, PySem.W.codeHdIn (He.frT h.get? as) (He.cT (He.frT h.get? as) p).1 (He.cT (He.frT h.get? as) p).2 = true ∧ ∃ o, h.get? (He.cT (He.frT h.get? as) p).2 = some o ∧ He.emptyTab o = true := fun p hp => by
    obtain ⟨h3, h4⟩ := ba (List.all_eq_true.mp h2 p hp)
    refine ⟨h3, ?_⟩
    cases q : h.get? (He.cT (He.frT h.get? as) p).2 with
    | none => rw [q] at h4; cases h4
    | some o => rw [q] at h4; exact ⟨o, rfl, h4⟩
  refine ⟨e1, h1, fun p hp => (key p hp).1, fun p hp => ?_, fun p hp => ?_⟩
  · obtain ⟨_, o, q, z⟩ := key p hp
    exact He.frT_none q z
  · obtain ⟨_, o, q, z⟩ := key p hp
    rw [q, He.emptyTab_eq z]
def hookY (n : Nat) (fa : List He.Fa) (fn : List He.DefD) (tf : List He.Defn) (ex : Fg → Bool) (inis : List IniD) : PySem.W.Hook where
  α := AlY
  obs := fun s => obsY n fa fn tf ex inis s.heap.get?
  val := fun w => ((He.valT fn [] w, true), inis.map IniD.val)
  says := fun w h => ∃ K : Fg, K.In h ∧ He.SaysX fa fn [] tf ex w h K ∧ (inis.map fun d => iniW K d.x) = inis.map IniD.val
  of := fun _ _ e => ⟨_, He.frT_in, says_of (congrArg (fun z : AlY => z.1.1) e) (congrArg (fun z : AlY => z.1.2) e), congrArg (fun z : AlY => z.2) e⟩
  keeps := fun _ _ _ ⟨K, hK, c, d⟩ k => ⟨K, PySem.W.Frag.In.keeps hK k, ⟨c.t, c.more, c.hd, c.out, fun p hp => k _ _ (c.empty p hp)⟩, d⟩
theorem obsY_eq {n : Nat} {fa : List He.Fa} {fn : List He.DefD} {tf : List He.Defn} {ex : Fg → Bool} {inis : List IniD} {g : Addr → Option Obj} {s : Shared} (h : ∀ a, g a = s.heap.get? a) : obsY n fa fn tf ex inis g = (hookY n fa fn tf ex inis).obs s := by
  have e : g = s.heap.get? := funext h
  rw [e] <;> rfl
end Rf
set_option maxHeartbeats 0
namespace Pg
open PySem Rf
/-! the program in own syntax -/
def I_is_whole : Nat := 0
def I_is_count : Nat := 1
def I_is_below : Nat := 2
def I_is_order_of : Nat := 3
def I_is_ranking : Nat := 4
def I_check_ranking : Nat := 5
def I_is_peaked_on : Nat := 6
def I_check_line : Nat := 7
def I_check_peaked : Nat := 8
def I_ends_in : Nat := 9
def I_are_letters : Nat := 10
def I_check_answers : Nat := 11
def I_left_by : Nat := 12
def I_question : Nat := 13
def I_told_so_far : Nat := 14
def I_open_rankings : Nat := 15
def I_answers_of : Nat := 16
def I__law_hash : Nat := 17
def I__law_random : Nat := 18
def I__law_cell : Nat := 19
def I__law_generator : Nat := 20
def I__law_drawn_order : Nat := 21
def I__law_same : Nat := 22
def I__law_caught : Nat := 23
def I__law_alike : Nat := 24
def I__law_refused : Nat := 25
def I__law_all_refused : Nat := 26
def I__law_axis : Nat := 27
def I__law_peaked : Nat := 28
def I__law_by_ends : Nat := 29
def I__law_peaked_drawn : Nat := 30
def I__law_all_peaked : Nat := 31
def I__law_wrong_axes : Nat := 32
def I__law_wrong_rankings : Nat := 33
def I_law : Nat := 34
/-- is_whole(value): 0 value -/
def B_is_whole : Sts := (.cons (.ret (.bop true (.cons (.isi [.int] (.var 0)) (.cons (.not (.isi [.bool] (.var 0))) .nil)))) .nil)
def F_is_whole : Fn := { np := 1, ns := 1, nas := [0], body := B_is_whole }
/-- is_count(value): 0 value -/
def B_is_count : Sts := (.cons (.ret (.bop true (.cons (.call I_is_whole [] (.cons (.var 0) .nil)) (.cons (.cmp .ge (.var 0) (.int 0)) .nil)))) .nil)
def F_is_count : Fn := { np := 1, ns := 1, nas := [0], body := B_is_count }
/-- is_below(value, bound): 0 value, 1 bound -/
def B_is_below : Sts := (.cons (.ret (.bop true (.cons (.call I_is_count [] (.cons (.var 0) .nil)) (.cons (.cmp .lt (.var 0) (.var 1)) .nil)))) .nil)
def F_is_below : Fn := { np := 2, ns := 2, nas := [0, 1], body := B_is_below }
/-- is_order_of(many, value): 0 many, 1 value, 2 one -/
def B_is_order_of : Sts := (.cons (.ite (.bop false (.cons (.not (.isi [.list] (.var 1))) (.cons (.cmp .ne (.bi .len (.cons (.var 1) .nil)) (.var 0)) (.cons (.cmp .ne (.comp (.nm 2) (.seq (.var 1)) (.cons (.not (.call I_is_below [] (.cons (.var 2) (.cons (.var 0) .nil)))) .nil) (.var 2)) (.lst .nil)) .nil)))) (.cons (.ret (.bl false)) .nil) .nil) (.cons (.ret (.cmp .eq (.comp (.nm 2) (.seq (.var 1)) (.cons (.cmp .gt (.mt .count (.var 1) (.cons (.var 2) .nil)) (.int 1)) .nil) (.var 2)) (.lst .nil))) .nil))
def F_is_order_of : Fn := { np := 2, ns := 3, nas := [0, 1], body := B_is_order_of }
/-- is_ranking(value): 0 value -/
def B_is_ranking : Sts := (.cons (.ret (.bop true (.cons (.isi [.list] (.var 0)) (.cons (.chain .le .le (.int 1) (.bi .len (.cons (.var 0) .nil)) (.cst 0 (.int 7))) (.cons (.call I_is_order_of [] (.cons (.bi .len (.cons (.var 0) .nil)) (.cons (.var 0) .nil))) .nil))))) .nil)
def F_is_ranking : Fn := { np := 1, ns := 1, nas := [0], body := B_is_ranking }
/-- check_ranking(ranking, many): 0 ranking, 1 many -/
def B_check_ranking : Sts := (.cons (.ite (.not (.call I_is_order_of [] (.cons (.var 1) (.cons (.var 0) .nil)))) (.cons (.rse 1 (.var 0)) .nil) .nil) .nil)
def F_check_ranking : Fn := { np := 2, ns := 2, nas := [0, 1], body := B_check_ranking }
/-- is_peaked_on(ranking, axis): 0 ranking, 1 axis, 2 left, 3 right, 4 thing, 5 place -/
def B_is_peaked_on : Sts := (.cons (.asg false 2 (.mt .index (.var 1) (.cons (.idx (.var 0) (.int 0)) .nil))) (.cons (.asg false 3 (.var 2)) (.cons (.for_ (.nm 4) (.seq (.slc (.var 0) (.so (.int 1)) .no)) (.cons (.asg false 5 (.mt .index (.var 1) (.cons (.var 4) .nil))) (.cons (.ite (.cmp .eq (.var 5) (.bin .sub (.var 2) (.int 1))) (.cons (.asg false 2 (.var 5)) .nil) (.cons (.ite (.cmp .eq (.var 5) (.bin .add (.var 3) (.int 1))) (.cons (.asg false 3 (.var 5)) .nil) (.cons (.ret (.bl false)) .nil)) .nil)) .nil))) (.cons (.ret (.bl true)) .nil))))
def F_is_peaked_on : Fn := { np := 2, ns := 6, nas := [0, 1], body := B_is_peaked_on }
/-- check_line(axis): 0 axis -/
def B_check_line : Sts := (.cons (.ite (.not (.call I_is_ranking [] (.cons (.var 0) .nil))) (.cons (.rse 2 (.var 0)) .nil) .nil) .nil)
def F_check_line : Fn := { np := 1, ns := 1, nas := [0], body := B_check_line }
/-- check_peaked(axis, ranking): 0 axis, 1 ranking -/
def B_check_peaked : Sts := (.cons (.ex (.call I_check_line [] (.cons (.var 0) .nil))) (.cons (.ex (.call I_check_ranking [] (.cons (.var 1) (.cons (.bi .len (.cons (.var 0) .nil)) .nil)))) (.cons (.ite (.not (.call I_is_peaked_on [] (.cons (.var 1) (.cons (.var 0) .nil)))) (.cons (.rse 14 (.var 1)) .nil) .nil) .nil)))
def F_check_peaked : Fn := { np := 2, ns := 2, nas := [0, 1], body := B_check_peaked }
/-- ends_in(axis, ranking): 0 axis, 1 ranking, 2 left, 3 row, 4 thing -/
def B_ends_in : Sts := (.cons (.asg true 2 (.lcp (.var 0))) (.cons (.asg true 3 (.lst .nil)) (.cons (.for_ (.nm 4) (.seq (.rev (.slc (.var 1) (.so (.int 1)) .no))) (.cons (.app 3 (.ite (.cmp .eq (.idx (.var 2) (.int 0)) (.var 4)) (.int 0) (.int 1))) (.cons (.rem 2 (.var 4)) .nil))) (.cons (.ret (.var 3)) .nil))))
def F_ends_in : Fn := { np := 2, ns := 5, nas := [0, 1], body := B_ends_in }
/-- are_letters(value, many): 0 value, 1 many, 2 letter -/
def B_are_letters : Sts := (.cons (.ite (.bop false (.cons (.not (.isi [.list] (.var 0))) (.cons (.cmp .ne (.bi .len (.cons (.var 0) .nil)) (.var 1)) .nil))) (.cons (.ret (.bl false)) .nil) .nil) (.cons (.ret (.cmp .eq (.comp (.nm 2) (.seq (.var 0)) (.cons (.not (.call I_is_below [] (.cons (.var 2) (.cons (.int 2) .nil)))) .nil) (.var 2)) (.lst .nil))) .nil))
def F_are_letters : Fn := { np := 2, ns := 3, nas := [0, 1], body := B_are_letters }
/-- check_answers(axis, row): 0 axis, 1 row -/
def B_check_answers : Sts := (.cons (.ex (.call I_check_line [] (.cons (.var 0) .nil))) (.cons (.ite (.bop false (.cons (.not (.isi [.list] (.var 1))) (.cons (.not (.call I_are_letters [] (.cons (.var 1) (.cons (.bi .min2 (.cons (.bi .len (.cons (.var 1) .nil)) (.cons (.bin .sub (.bi .len (.cons (.var 0) .nil)) (.int 1)) .nil))) .nil)))) .nil))) (.cons (.rse 3 (.var 1)) .nil) .nil) .nil))
def F_check_answers : Fn := { np := 2, ns := 2, nas := [0, 1], body := B_check_answers }
/-- left_by(axis, row): 0 axis, 1 row, 2 left, 3 told, 4 letter, 5 thing -/
def B_left_by : Sts := (.cons (.asg true 2 (.lcp (.var 0))) (.cons (.asg false 3 (.lst .nil)) (.cons (.for_ (.nm 4) (.seq (.var 1)) (.cons (.asg false 5 (.ite (.cmp .eq (.var 4) (.int 0)) (.idx (.var 2) (.int 0)) (.idx (.var 2) (.neg (.int 1))))) (.cons (.rem 2 (.var 5)) (.cons (.asg false 3 (.bin .add (.lst (.cons (.var 5) .nil)) (.var 3))) .nil)))) (.cons (.ret (.tup (.cons (.var 2) (.cons (.var 3) .nil)))) .nil))))
def F_left_by : Fn := { np := 2, ns := 6, nas := [0, 1], body := B_left_by }
/-- question(axis, row): 0 axis, 1 row, 2 left, 3 told -/
def B_question : Sts := (.cons (.ex (.call I_check_answers [] (.cons (.var 0) (.cons (.var 1) .nil)))) (.cons (.asgT [2, 3] (.call I_left_by [] (.cons (.var 0) (.cons (.var 1) .nil)))) (.cons (.ret (.ite (.cmp .gt (.bi .len (.cons (.var 2) .nil)) (.int 1)) (.tup (.cons (.idx (.var 2) (.int 0)) (.cons (.idx (.var 2) (.neg (.int 1))) .nil))) .non)) .nil)))
def F_question : Fn := { np := 2, ns := 4, nas := [0, 1], body := B_question }
/-- told_so_far(axis, row): 0 axis, 1 row, 2 left, 3 told -/
def B_told_so_far : Sts := (.cons (.ex (.call I_check_answers [] (.cons (.var 0) (.cons (.var 1) .nil)))) (.cons (.asgT [2, 3] (.call I_left_by [] (.cons (.var 0) (.cons (.var 1) .nil)))) (.cons (.ret (.ite (.cmp .eq (.bi .len (.cons (.var 2) .nil)) (.int 1)) (.bin .add (.var 2) (.var 3)) (.var 3))) .nil)))
def F_told_so_far : Fn := { np := 2, ns := 4, nas := [0, 1], body := B_told_so_far }
/-- open_rankings(axis, row): 0 axis, 1 row, 2 many, 3 turn -/
def B_open_rankings : Sts := (.cons (.ex (.call I_check_answers [] (.cons (.var 0) (.cons (.var 1) .nil)))) (.cons (.asg false 2 (.int 1)) (.cons (.for_ (.nm 3) (.rng1 (.bin .sub (.bin .sub (.bi .len (.cons (.var 0) .nil)) (.int 1)) (.bi .len (.cons (.var 1) .nil)))) (.cons (.asg false 2 (.bin .mul (.int 2) (.var 2))) .nil)) (.cons (.ret (.var 2)) .nil))))
def F_open_rankings : Fn := { np := 2, ns := 4, nas := [0, 1], body := B_open_rankings }
/-- answers_of(axis, ranking): 0 axis, 1 ranking -/
def B_answers_of : Sts := (.cons (.ex (.call I_check_peaked [] (.cons (.var 0) (.cons (.var 1) .nil)))) (.cons (.ret (.call I_ends_in [] (.cons (.var 0) (.cons (.var 1) .nil)))) .nil))
def F_answers_of : Fn := { np := 2, ns := 2, nas := [0, 1], body := B_answers_of }
/-- _law_hash(seed, index): 0 seed, 1 index, 2 mixed -/
def B__law_hash : Sts := (.cons (.asg false 2 (.bin .mod (.bi .int (.cons (.bin .add (.bin .add (.bin .add (.bin .mul (.var 0) (.int 1140671)) (.bin .mul (.bin .mul (.int 27644437) (.var 1)) (.var 1))) (.bin .mul (.int 131) (.var 1))) (.int 19)) .nil)) (.int 2147483629))) (.cons (.asg false 2 (.bin .mod (.bi .int (.cons (.bin .add (.bin .add (.bin .mul (.var 2) (.var 2)) (.bin .mul (.int 62089) (.var 1))) (.int 32416187)) .nil)) (.int 2147483587))) (.cons (.ret (.bin .mod (.bi .int (.cons (.bin .mul (.var 2) (.int 48271)) .nil)) (.int 2147483647))) .nil)))
def F__law_hash : Fn := { np := 2, ns := 3, nas := [0, 1], body := B__law_hash }
/-- _law_random(generator, bound): 0 generator, 1 bound, 2 drawn, 3 turn -/
def B__law_random : Sts := (.cons (.ite (.cmp .gt (.idx (.var 0) (.int 0)) (.int 0)) (.cons (.asg false 2 (.bin .mod (.bi .int (.cons (.idx (.var 0) (.int 0)) .nil)) (.var 1))) (.cons (.setI 0 (.int 0) (.bin .fdiv (.idx (.var 0) (.int 0)) (.var 1))) (.cons (.ret (.var 2)) .nil))) .nil) (.cons (.asg false 2 (.int 0)) (.cons (.for_ (.nm 3) (.rng1 (.bin .add (.int 1) (.bin .fdiv (.mt .bitlen (.var 1) .nil) (.int 30)))) (.cons (.setI 0 (.int 2) (.bin .add (.idx (.var 0) (.int 2)) (.int 1))) (.cons (.asg false 2 (.bin .add (.bin .mul (.var 2) (.int 2147483587)) (.call I__law_hash [] (.cons (.idx (.var 0) (.int 1)) (.cons (.idx (.var 0) (.int 2)) .nil))))) .nil))) (.cons (.ret (.bin .mod (.bi .int (.cons (.var 2) .nil)) (.var 1))) .nil))))
def F__law_random : Fn := { np := 2, ns := 4, nas := [0, 1], body := B__law_random }
/-- _law_cell(script, index): 0 script, 1 index -/
def B__law_cell : Sts := (.cons (.ite (.cmp .lt (.var 1) (.bi .len (.cons (.var 0) .nil))) (.cons (.ret (.idx (.var 0) (.var 1))) .nil) .nil) (.cons (.ret (.bin .mod (.bi .sum (.cons (.slc (.var 0) .no (.so (.int 1))) .nil)) (.int 1000003))) .nil))
def F__law_cell : Fn := { np := 2, ns := 2, nas := [0, 1], body := B__law_cell }
/-- _law_generator(script, index): 0 script, 1 index, 2 seed -/
def B__law_generator : Sts := (.cons (.asg false 2 (.call I__law_cell [] (.cons (.var 0) (.cons (.var 1) .nil)))) (.cons (.ret (.lst (.cons (.bin .mod (.bi .int (.cons (.bi .max2 (.cons (.bin .sub (.var 2) (.bin .pow (.int 10) (.int 18))) (.cons (.int 0) .nil))) .nil)) (.bin .pow (.bin .pow (.int 10) (.int 60)) (.int 10))) (.cons (.bin .mod (.bi .int (.cons (.var 2) .nil)) (.int 2147483647)) (.cons (.bin .mul (.int 1000) (.var 1)) .nil))))) .nil))
def F__law_generator : Fn := { np := 2, ns := 3, nas := [0, 1], body := B__law_generator }
/-- _law_drawn_order(generator, things): 0 generator, 1 things, 2 left, 3 found -/
def B__law_drawn_order : Sts := (.cons (.par [true, true] [2, 3] (.cons (.lcp (.var 1)) (.cons (.lst .nil) .nil))) (.cons (.whl (.cmp .ne (.var 2) (.lst .nil)) (.cons (.app 3 (.pop 2 (.call I__law_random [] (.cons (.ioa 0) (.cons (.bi .len (.cons (.var 2) .nil)) .nil))))) .nil)) (.cons (.ret (.var 3)) .nil)))
def F__law_drawn_order : Fn := { np := 2, ns := 4, nas := [0, 1], body := B__law_drawn_order }
/-- _law_same(told, due): 0 told, 1 due, 2 at -/
def B__law_same : Sts := (.cons (.ite (.bop false (.cons (.cmp .is_ (.var 1) .non) (.cons (.cmp .is_ (.var 1) (.bl true)) (.cons (.cmp .is_ (.var 1) (.bl false)) .nil)))) (.cons (.ret (.ite (.cmp .is_ (.var 1) .non) (.cmp .is_ (.var 0) .non) (.ite (.cmp .is_ (.var 1) (.bl true)) (.cmp .is_ (.var 0) (.bl true)) (.cmp .is_ (.var 0) (.bl false))))) .nil) .nil) (.cons (.ite (.isi [.list, .tuple] (.var 1)) (.cons (.ite (.bop false (.cons (.bop true (.cons (.not (.isi [.list] (.var 0))) (.cons (.isi [.list] (.var 1)) .nil))) (.cons (.bop true (.cons (.not (.isi [.tuple] (.var 0))) (.cons (.isi [.tuple] (.var 1)) .nil))) .nil))) (.cons (.ret (.bl false)) .nil) .nil) (.cons (.ret (.bop true (.cons (.cmp .eq (.bi .len (.cons (.var 0) .nil)) (.bi .len (.cons (.var 1) .nil))) (.cons (.cmp .eq (.comp (.nm 2) (.rng1 (.bi .len (.cons (.var 1) .nil))) (.cons (.not (.call I__law_same [] (.cons (.idx (.var 0) (.var 2)) (.cons (.idx (.var 1) (.var 2)) .nil)))) .nil) (.var 2)) (.lst .nil)) .nil)))) .nil)) .nil) (.cons (.ite (.isi [.int] (.var 1)) (.cons (.ret (.bop true (.cons (.isi [.int] (.var 0)) (.cons (.not (.isi [.bool] (.var 0))) (.cons (.cmp .eq (.var 0) (.var 1)) .nil))))) .nil) .nil) (.cons (.ret (.bop true (.cons (.isi [.str] (.var 0)) (.cons (.cmp .eq (.var 0) (.var 1)) .nil)))) .nil))))
def F__law_same : Fn := { np := 2, ns := 3, nas := [0, 1], body := B__law_same }
/-- _law_caught(call): 0 call, 1 caught, 2 e, 3 kinds, 4 words -/
def B__law_caught : Sts := (.cons (.ex (.ioa 0)) .nil)
def F__law_caught : Fn := { np := 1, ns := 5, nas := [], body := B__law_caught }
/-- _law_alike(told, due): 0 told, 1 due -/
def B__law_alike : Sts := (.cons (.ret (.cmp .eq (.bi .repr (.cons (.var 0) .nil)) (.bi .repr (.cons (.var 1) .nil)))) .nil)
def F__law_alike : Fn := { np := 2, ns := 2, nas := [0, 1], body := B__law_alike }
/-- _law_refused(call, word, value): 0 call, 1 word, 2 value, 3 told -/
def B__law_refused : Sts := (.cons (.ex (.ioa 0)) .nil)
def F__law_refused : Fn := { np := 3, ns := 4, nas := [], body := B__law_refused }
/-- _law_all_refused(calls, word, value): 0 calls, 1 word, 2 value, 3 call -/
def B__law_all_refused : Sts := (.cons (.ex (.ioa 0)) .nil)
def F__law_all_refused : Fn := { np := 3, ns := 4, nas := [], body := B__law_all_refused }
/-- _law_axis(generator, most): 0 generator, 1 most -/
def B__law_axis : Sts := (.cons (.ret (.call I__law_drawn_order [] (.cons (.ioa 0) (.cons (.lof (.rng1 (.bin .add (.int 1) (.call I__law_random [] (.cons (.ioa 0) (.cons (.var 1) .nil)))))) .nil)))) .nil)
def F__law_axis : Fn := { np := 2, ns := 2, nas := [0, 1], body := B__law_axis }
/-- _law_peaked(ranking, axis): 0 ranking, 1 axis, 2 places, 3 thing, 4 many -/
def B__law_peaked : Sts := (.cons (.asg false 2 (.comp (.nm 3) (.seq (.var 0)) .nil (.mt .index (.var 1) (.cons (.var 3) .nil)))) (.cons (.ret (.cmp .eq (.comp (.nm 4) (.rng2 (.int 1) (.bi .len (.cons (.var 2) .nil))) (.cons (.cmp .ne (.bin .sub (.bi .maxL (.cons (.slc (.var 2) .no (.so (.var 4))) .nil)) (.bi .minL (.cons (.slc (.var 2) .no (.so (.var 4))) .nil))) (.bin .sub (.var 4) (.int 1))) .nil) (.var 4)) (.lst .nil))) .nil))
def F__law_peaked : Fn := { np := 2, ns := 5, nas := [0, 1], body := B__law_peaked }
/-- _law_by_ends(axis, row): 0 axis, 1 row, 2 letter, 3 left, 4 told, 5 thing, 6 one -/
def B__law_by_ends : Sts := (.cons (.par [false, false] [3, 4] (.cons (.lcp (.var 0)) (.cons (.lst .nil) .nil))) (.cons (.for_ (.nm 2) (.seq (.var 1)) (.cons (.asg false 5 (.idx (.var 3) (.neg (.var 2)))) (.cons (.asg false 4 (.bin .add (.lst (.cons (.var 5) .nil)) (.var 4))) (.cons (.asg false 3 (.comp (.nm 6) (.seq (.var 3)) (.cons (.cmp .ne (.var 6) (.var 5)) .nil) (.var 6))) .nil)))) (.cons (.ret (.bin .add (.var 3) (.var 4))) .nil)))
def F__law_by_ends : Fn := { np := 2, ns := 7, nas := [0, 1], body := B__law_by_ends }
/-- _law_peaked_drawn(generator, axis): 0 generator, 1 axis, 2 turn -/
def B__law_peaked_drawn : Sts := (.cons (.ret (.call I__law_by_ends [] (.cons (.var 1) (.cons (.comp (.nm 2) (.rng1 (.bin .sub (.bi .len (.cons (.var 1) .nil)) (.int 1))) .nil (.call I__law_random [] (.cons (.ioa 0) (.cons (.int 2) .nil)))) .nil)))) .nil)
def F__law_peaked_drawn : Fn := { np := 2, ns := 3, nas := [0, 1], body := B__law_peaked_drawn }
/-- _law_all_peaked(axis): 0 axis, 1 rows, 2 turn, 3 row -/
def B__law_all_peaked : Sts := (.cons (.asg false 1 (.lst (.cons (.lst .nil) .nil))) (.cons (.for_ (.nm 2) (.rng1 (.bin .sub (.bi .len (.cons (.var 0) .nil)) (.int 1))) (.cons (.asg false 1 (.bi .sumL (.cons (.comp (.nm 3) (.seq (.var 1)) .nil (.lst (.cons (.bin .add (.var 3) (.lst (.cons (.int 0) .nil))) (.cons (.bin .add (.var 3) (.lst (.cons (.int 1) .nil))) .nil)))) .nil))) .nil)) (.cons (.ret (.bi .sorted (.cons (.comp (.nm 3) (.seq (.var 1)) .nil (.call I__law_by_ends [] (.cons (.var 0) (.cons (.var 3) .nil)))) .nil))) .nil)))
def F__law_all_peaked : Fn := { np := 1, ns := 4, nas := [0], body := B__law_all_peaked }
/-- _law_wrong_axes():  -/
def B__law_wrong_axes : Sts := (.cons (.ret (.lst (.cons .non (.cons (.int 7) (.cons (.tup .nil) (.cons (.lst .nil) (.cons (.tup (.cons (.int 0) (.cons (.int 1) .nil))) (.cons (.lst (.cons (.int 1) .nil)) (.cons (.lst (.cons (.int 0) (.cons (.int 0) .nil))) (.cons (.lst (.cons (.int 0) (.cons (.int 2) .nil))) (.cons (.lst (.cons (.int 0) (.cons (.int 1) (.cons (.int 3) .nil)))) (.cons (.lst (.cons (.bl true) .nil)) (.cons (.lst (.cons .non .nil)) (.cons (.lst (.cons (.str "0") .nil)) (.cons (.lst (.cons (.lst (.cons (.int 0) .nil)) .nil)) (.cons (.lst (.cons (.bin .sub (.int 0) (.int 1)) (.cons (.int 0) .nil))) (.cons (.lof (.rng1 (.int 8))) (.cons .dct .nil)))))))))))))))))) .nil)
def F__law_wrong_axes : Fn := { np := 0, ns := 0, nas := [], body := B__law_wrong_axes }
/-- _law_wrong_rankings(many): 0 many, 1 good -/
def B__law_wrong_rankings : Sts := (.cons (.asg false 1 (.lof (.rng1 (.var 0)))) (.cons (.ret (.lst (.cons .non (.cons (.int 7) (.cons (.tup .nil) (.cons .dct (.cons (.bi .toTuple (.cons (.var 1) .nil)) (.cons (.slc (.var 1) (.so (.int 1)) .no) (.cons (.bin .add (.var 1) (.lst (.cons (.var 0) .nil))) (.cons (.bin .add (.lst (.cons (.var 0) .nil)) (.slc (.var 1) (.so (.int 1)) .no)) (.cons (.bin .add (.lst (.cons (.bin .sub (.int 0) (.int 1)) .nil)) (.slc (.var 1) (.so (.int 1)) .no)) (.cons (.bin .add (.lst (.cons .non .nil)) (.slc (.var 1) (.so (.int 1)) .no)) (.cons (.bin .add (.lst (.cons (.str "0") .nil)) (.slc (.var 1) (.so (.int 1)) .no)) (.cons (.bin .add (.lst (.cons (.lst (.cons (.int 0) .nil)) .nil)) (.slc (.var 1) (.so (.int 1)) .no)) (.cons (.bin .mul (.lst (.cons (.bl true) .nil)) (.var 0)) .nil))))))))))))))) .nil))
def F__law_wrong_rankings : Fn := { np := 1, ns := 2, nas := [0], body := B__law_wrong_rankings }
/-- law(script): 0 script, 1 generator, 2 turn, 3 bad, 4 axis, 5 told, 6 drawn, 7 ranking, 8 kept, 9 left, 10 row, 11 every, 12 ends, 13 due, 14 shown, 15 last, 16 thing, 17 one -/
def B_law : Sts := (.cons (.asg true 1 (.call I__law_generator [] (.cons (.var 0) (.cons (.int 0) .nil)))) (.cons (.for_ (.nm 2) (.rng1 (.int 2)) (.cons (.asg false 4 (.call I__law_axis [] (.cons (.ioa 1) (.cons (.int 7) .nil)))) (.cons (.par [false, false] [7, 8] (.cons (.call I__law_peaked_drawn [] (.cons (.ioa 1) (.cons (.var 4) .nil))) (.cons (.bi .repr (.cons (.var 4) .nil)) .nil))) (.cons (.par [false, false, false, false] [9, 5, 10, 11] (.cons (.lcp (.var 4)) (.cons (.lst .nil) (.cons (.lst .nil) (.cons (.call I__law_all_peaked [] (.cons (.var 4) .nil)) .nil))))) (.cons (.whl (.cmp .gt (.bi .len (.cons (.var 9) .nil)) (.int 1)) (.cons (.asg false 12 (.tup (.cons (.idx (.var 9) (.int 0)) (.cons (.idx (.var 9) (.neg (.int 1))) .nil)))) (.cons (.asg false 13 (.lst (.cons (.var 12) (.cons (.var 5) (.cons (.bi .len (.cons (.comp (.nm 17) (.seq (.var 11)) (.cons (.cmp .eq (.slc (.var 17) (.so (.bin .sub (.bi .len (.cons (.var 17) .nil)) (.bi .len (.cons (.var 5) .nil)))) .no) (.var 5)) .nil) (.var 17)) .nil)) .nil))))) (.blk [0, 1, 2, 3, 4, 5, 6, 7, 8, 9, 10, 11, 12, 13, 15] (.cons (.asg false 14 (.lst (.cons (.call I_question [] (.cons (.var 4) (.cons (.var 10) .nil))) (.cons (.call I_told_so_far [] (.cons (.var 4) (.cons (.var 10) .nil))) (.cons (.call I_open_rankings [] (.cons (.var 4) (.cons (.var 10) .nil))) .nil))))) (.cons (.ite (.bop false (.cons (.not (.call I__law_same [] (.cons (.var 14) (.cons (.var 13) .nil)))) (.cons (.not (.call I__law_same [] (.cons (.lst (.cons (.call I_question [1, 0] (.cons (.var 10) (.cons (.var 4) .nil))) (.cons (.call I_told_so_far [1, 0] (.cons (.var 10) (.cons (.var 4) .nil))) (.cons (.call I_open_rankings [1, 0] (.cons (.var 10) (.cons (.var 4) .nil))) .nil)))) (.cons (.var 13) .nil)))) .nil))) (.cons (.ret (.bl false)) .nil) .nil) (.cons (.scr [0, 1, 2, 3, 4, 5, 6, 7, 8, 9, 10, 11, 12, 13, 15] (.idx (.var 14) (.int 1)) (.int 7)) .nil))) (.cons (.ite (.not (.call I__law_same [] (.cons (.call I_told_so_far [] (.cons (.var 4) (.cons (.var 10) .nil))) (.cons (.var 5) .nil)))) (.cons (.ret (.bl false)) .nil) .nil) (.cons (.asg false 15 (.ite (.cmp .gt (.mt .index (.var 7) (.cons (.idx (.var 12) (.int 0)) .nil)) (.mt .index (.var 7) (.cons (.idx (.var 12) (.int 1)) .nil))) (.idx (.var 12) (.int 0)) (.idx (.var 12) (.int 1)))) (.cons (.par [false, false, false] [10, 5, 9] (.cons (.bin .add (.var 10) (.lst (.cons (.bi .int (.cons (.cmp .eq (.var 15) (.idx (.var 12) (.int 1))) .nil)) .nil))) (.cons (.bin .add (.lst (.cons (.var 15) .nil)) (.var 5)) (.cons (.comp (.nm 16) (.seq (.var 9)) (.cons (.cmp .ne (.var 16) (.var 15)) .nil) (.var 16)) .nil)))) .nil))))))) (.cons (.ite (.not (.call I__law_same [] (.cons (.lst (.cons (.call I_question [] (.cons (.var 4) (.cons (.var 10) .nil))) (.cons (.call I_told_so_far [] (.cons (.var 4) (.cons (.var 10) .nil))) (.cons (.call I_open_rankings [] (.cons (.var 4) (.cons (.var 10) .nil))) (.cons (.call I_answers_of [] (.cons (.var 4) (.cons (.var 7) .nil))) (.cons (.call I_answers_of [1, 0] (.cons (.var 7) (.cons (.var 4) .nil))) .nil)))))) (.cons (.lst (.cons .non (.cons (.var 7) (.cons (.int 1) (.cons (.var 10) (.cons (.var 10) .nil)))))) .nil)))) (.cons (.ret (.bl false)) .nil) .nil) (.cons (.ex (.apf (.call I_answers_of [] (.cons (.var 4) (.cons (.var 7) .nil))) (.int 7))) (.cons (.ite (.bop false (.cons (.cmp .ne (.bi .len (.cons (.var 11) .nil)) (.call I_open_rankings [] (.cons (.var 4) (.cons (.lst .nil) .nil)))) (.cons (.not (.call I__law_same [] (.cons (.call I_answers_of [] (.cons (.var 4) (.cons (.var 7) .nil))) (.cons (.var 10) .nil)))) (.cons (.cmp .ne (.bi .repr (.cons (.var 4) .nil)) (.var 8)) .nil)))) (.cons (.ret (.bl false)) .nil) .nil) (.cons (.asg false 6 (.call I__law_drawn_order [] (.cons (.ioa 1) (.cons (.var 4) .nil)))) (.cons (.ite (.bop true (.cons (.not (.call I__law_peaked [] (.cons (.var 6) (.cons (.var 4) .nil)))) (.cons (.not (.rfd (.call I_answers_of [] (.cons (.var 4) (.cons (.var 6) .nil))) (.str "unpeaked") (.var 6) I__law_alike ["ballots", "ranking", "axis", "row", "counts", "number", "places", "voter", "thing", "things", "names", "text", "beats", "edit", "unpeaked", "many"])) .nil))) (.cons (.ret (.bl false)) .nil) .nil) (.cons (.for_ (.nm 3) (.seq (.lst (.cons .non (.cons (.int 7) (.cons (.tup .nil) (.cons (.bi .toTuple (.cons (.var 10) .nil)) (.cons (.bin .add (.var 10) (.lst (.cons (.int 0) .nil))) (.cons (.lst (.cons (.int 2) .nil)) (.cons (.lst (.cons (.bl true) .nil)) (.cons (.lst (.cons .non .nil)) (.cons .dct .nil))))))))))) (.cons (.ite (.not (.rfa (.cons (.call I_question [] (.cons (.var 4) (.cons (.var 3) .nil))) (.cons (.call I_told_so_far [] (.cons (.var 4) (.cons (.var 3) .nil))) (.cons (.call I_open_rankings [] (.cons (.var 4) (.cons (.var 3) .nil))) .nil))) (.str "row") (.var 3) I__law_alike ["ballots", "ranking", "axis", "row", "counts", "number", "places", "voter", "thing", "things", "names", "text", "beats", "edit", "unpeaked", "many"])) (.cons (.ret (.bl false)) .nil) .nil) .nil)) (.cons (.for_ (.nm 3) (.seq (.call I__law_wrong_rankings [] (.cons (.bi .len (.cons (.var 4) .nil)) .nil))) (.cons (.ite (.not (.rfd (.call I_answers_of [] (.cons (.var 4) (.cons (.var 3) .nil))) (.str "ranking") (.var 3) I__law_alike ["ballots", "ranking", "axis", "row", "counts", "number", "places", "voter", "thing", "things", "names", "text", "beats", "edit", "unpeaked", "many"])) (.cons (.ret (.bl false)) .nil) .nil) .nil)) .nil)))))))))))) (.cons (.for_ (.nm 3) (.seq (.call I__law_wrong_axes [] .nil)) (.cons (.ite (.not (.rfa (.cons (.call I_question [] (.cons (.var 3) (.cons .non .nil))) (.cons (.call I_told_so_far [] (.cons (.var 3) (.cons .non .nil))) (.cons (.call I_open_rankings [] (.cons (.var 3) (.cons .non .nil))) (.cons (.call I_answers_of [] (.cons (.var 3) (.cons .non .nil))) .nil)))) (.str "axis") (.var 3) I__law_alike ["ballots", "ranking", "axis", "row", "counts", "number", "places", "voter", "thing", "things", "names", "text", "beats", "edit", "unpeaked", "many"])) (.cons (.ret (.bl false)) .nil) .nil) .nil)) (.cons (.asg false 4 (.lst (.cons (.int 0) (.cons (.int 1) (.cons (.int 2) (.cons (.int 3) .nil)))))) (.cons (.asg false 5 (.lst (.cons (.call I_question [] (.cons (.var 4) (.cons (.lst .nil) .nil))) (.cons (.call I_question [] (.cons (.var 4) (.cons (.lst (.cons (.int 0) .nil)) .nil))) (.cons (.call I_question [] (.cons (.var 4) (.cons (.lst (.cons (.int 0) (.cons (.int 1) (.cons (.int 0) .nil)))) .nil))) (.cons (.call I_told_so_far [] (.cons (.var 4) (.cons (.lst (.cons (.int 0) .nil)) .nil))) (.cons (.call I_told_so_far [] (.cons (.var 4) (.cons (.lst (.cons (.int 0) (.cons (.int 1) (.cons (.int 0) .nil)))) .nil))) (.cons (.call I_open_rankings [] (.cons (.var 4) (.cons (.lst (.cons (.int 0) .nil)) .nil))) .nil)))))))) (.cons (.asg false 5 (.bin .add (.var 5) (.lst (.cons (.call I_answers_of [] (.cons (.var 4) (.cons (.lst (.cons (.int 2) (.cons (.int 1) (.cons (.int 3) (.cons (.int 0) .nil))))) .nil))) (.cons (.call I_told_so_far [] (.cons (.lst (.cons (.int 0) .nil)) (.cons (.lst .nil) .nil))) .nil))))) (.cons (.ret (.call I__law_same [] (.cons (.var 5) (.cons (.lst (.cons (.tup (.cons (.int 0) (.cons (.int 3) .nil))) (.cons (.tup (.cons (.int 1) (.cons (.int 3) .nil))) (.cons .non (.cons (.lst (.cons (.int 0) .nil)) (.cons (.lst (.cons (.int 2) (.cons (.int 1) (.cons (.int 3) (.cons (.int 0) .nil))))) (.cons (.int 4) (.cons (.lst (.cons (.int 0) (.cons (.int 1) (.cons (.int 0) .nil)))) (.cons (.lst (.cons (.int 0) .nil)) .nil))))))))) .nil)))) .nil)))))))
def F_law : Fn := { np := 1, ns := 18, nas := [0], body := B_law }
def prog : List Fn := ([F_is_whole, F_is_count, F_is_below, F_is_order_of, F_is_ranking, F_check_ranking, F_is_peaked_on, F_check_line, F_check_peaked, F_ends_in, F_are_letters, F_check_answers, F_left_by, F_question, F_told_so_far, F_open_rankings] : List Fn) ++ ([F_answers_of, F__law_hash, F__law_random, F__law_cell, F__law_generator, F__law_drawn_order, F__law_same, F__law_caught, F__law_alike, F__law_refused, F__law_all_refused, F__law_axis, F__law_peaked, F__law_by_ends, F__law_peaked_drawn, F__law_all_peaked] : List Fn) ++ ([F__law_wrong_axes, F__law_wrong_rankings, F_law] : List Fn)
theorem G_is_whole : prog[I_is_whole]? = some ⟨1, 1, [0], (.cons (.ret (.bop true (.cons (.isi [.int] (.var 0)) (.cons (.not (.isi [.bool] (.var 0))) .nil)))) .nil)⟩ := rfl
theorem G_is_count : prog[I_is_count]? = some ⟨1, 1, [0], (.cons (.ret (.bop true (.cons (.call I_is_whole [] (.cons (.var 0) .nil)) (.cons (.cmp .ge (.var 0) (.int 0)) .nil)))) .nil)⟩ := rfl
theorem G_is_below : prog[I_is_below]? = some ⟨2, 2, [0, 1], (.cons (.ret (.bop true (.cons (.call I_is_count [] (.cons (.var 0) .nil)) (.cons (.cmp .lt (.var 0) (.var 1)) .nil)))) .nil)⟩ := rfl
theorem G_is_order_of : prog[I_is_order_of]? = some ⟨2, 3, [0, 1], (.cons (.ite (.bop false (.cons (.not (.isi [.list] (.var 1))) (.cons (.cmp .ne (.bi .len (.cons (.var 1) .nil)) (.var 0)) (.cons (.cmp .ne (.comp (.nm 2) (.seq (.var 1)) (.cons (.not (.call I_is_below [] (.cons (.var 2) (.cons (.var 0) .nil)))) .nil) (.var 2)) (.lst .nil)) .nil)))) (.cons (.ret (.bl false)) .nil) .nil) (.cons (.ret (.cmp .eq (.comp (.nm 2) (.seq (.var 1)) (.cons (.cmp .gt (.mt .count (.var 1) (.cons (.var 2) .nil)) (.int 1)) .nil) (.var 2)) (.lst .nil))) .nil))⟩ := rfl
theorem G_is_ranking : prog[I_is_ranking]? = some ⟨1, 1, [0], (.cons (.ret (.bop true (.cons (.isi [.list] (.var 0)) (.cons (.chain .le .le (.int 1) (.bi .len (.cons (.var 0) .nil)) (.cst 0 (.int 7))) (.cons (.call I_is_order_of [] (.cons (.bi .len (.cons (.var 0) .nil)) (.cons (.var 0) .nil))) .nil))))) .nil)⟩ := rfl
theorem G_check_ranking : prog[I_check_ranking]? = some ⟨2, 2, [0, 1], (.cons (.ite (.not (.call I_is_order_of [] (.cons (.var 1) (.cons (.var 0) .nil)))) (.cons (.rse 1 (.var 0)) .nil) .nil) .nil)⟩ := rfl
theorem G_is_peaked_on : prog[I_is_peaked_on]? = some ⟨2, 6, [0, 1], (.cons (.asg false 2 (.mt .index (.var 1) (.cons (.idx (.var 0) (.int 0)) .nil))) (.cons (.asg false 3 (.var 2)) (.cons (.for_ (.nm 4) (.seq (.slc (.var 0) (.so (.int 1)) .no)) (.cons (.asg false 5 (.mt .index (.var 1) (.cons (.var 4) .nil))) (.cons (.ite (.cmp .eq (.var 5) (.bin .sub (.var 2) (.int 1))) (.cons (.asg false 2 (.var 5)) .nil) (.cons (.ite (.cmp .eq (.var 5) (.bin .add (.var 3) (.int 1))) (.cons (.asg false 3 (.var 5)) .nil) (.cons (.ret (.bl false)) .nil)) .nil)) .nil))) (.cons (.ret (.bl true)) .nil))))⟩ := rfl
theorem G_check_line : prog[I_check_line]? = some ⟨1, 1, [0], (.cons (.ite (.not (.call I_is_ranking [] (.cons (.var 0) .nil))) (.cons (.rse 2 (.var 0)) .nil) .nil) .nil)⟩ := rfl
theorem G_check_peaked : prog[I_check_peaked]? = some ⟨2, 2, [0, 1], (.cons (.ex (.call I_check_line [] (.cons (.var 0) .nil))) (.cons (.ex (.call I_check_ranking [] (.cons (.var 1) (.cons (.bi .len (.cons (.var 0) .nil)) .nil)))) (.cons (.ite (.not (.call I_is_peaked_on [] (.cons (.var 1) (.cons (.var 0) .nil)))) (.cons (.rse 14 (.var 1)) .nil) .nil) .nil)))⟩ := rfl
theorem G_ends_in : prog[I_ends_in]? = some ⟨2, 5, [0, 1], (.cons (.asg true 2 (.lcp (.var 0))) (.cons (.asg true 3 (.lst .nil)) (.cons (.for_ (.nm 4) (.seq (.rev (.slc (.var 1) (.so (.int 1)) .no))) (.cons (.app 3 (.ite (.cmp .eq (.idx (.var 2) (.int 0)) (.var 4)) (.int 0) (.int 1))) (.cons (.rem 2 (.var 4)) .nil))) (.cons (.ret (.var 3)) .nil))))⟩ := rfl
theorem G_are_letters : prog[I_are_letters]? = some ⟨2, 3, [0, 1], (.cons (.ite (.bop false (.cons (.not (.isi [.list] (.var 0))) (.cons (.cmp .ne (.bi .len (.cons (.var 0) .nil)) (.var 1)) .nil))) (.cons (.ret (.bl false)) .nil) .nil) (.cons (.ret (.cmp .eq (.comp (.nm 2) (.seq (.var 0)) (.cons (.not (.call I_is_below [] (.cons (.var 2) (.cons (.int 2) .nil)))) .nil) (.var 2)) (.lst .nil))) .nil))⟩ := rfl
theorem G_check_answers : prog[I_check_answers]? = some ⟨2, 2, [0, 1], (.cons (.ex (.call I_check_line [] (.cons (.var 0) .nil))) (.cons (.ite (.bop false (.cons (.not (.isi [.list] (.var 1))) (.cons (.not (.call I_are_letters [] (.cons (.var 1) (.cons (.bi .min2 (.cons (.bi .len (.cons (.var 1) .nil)) (.cons (.bin .sub (.bi .len (.cons (.var 0) .nil)) (.int 1)) .nil))) .nil)))) .nil))) (.cons (.rse 3 (.var 1)) .nil) .nil) .nil))⟩ := rfl
theorem G_left_by : prog[I_left_by]? = some ⟨2, 6, [0, 1], (.cons (.asg true 2 (.lcp (.var 0))) (.cons (.asg false 3 (.lst .nil)) (.cons (.for_ (.nm 4) (.seq (.var 1)) (.cons (.asg false 5 (.ite (.cmp .eq (.var 4) (.int 0)) (.idx (.var 2) (.int 0)) (.idx (.var 2) (.neg (.int 1))))) (.cons (.rem 2 (.var 5)) (.cons (.asg false 3 (.bin .add (.lst (.cons (.var 5) .nil)) (.var 3))) .nil)))) (.cons (.ret (.tup (.cons (.var 2) (.cons (.var 3) .nil)))) .nil))))⟩ := rfl
theorem G_question : prog[I_question]? = some ⟨2, 4, [0, 1], (.cons (.ex (.call I_check_answers [] (.cons (.var 0) (.cons (.var 1) .nil)))) (.cons (.asgT [2, 3] (.call I_left_by [] (.cons (.var 0) (.cons (.var 1) .nil)))) (.cons (.ret (.ite (.cmp .gt (.bi .len (.cons (.var 2) .nil)) (.int 1)) (.tup (.cons (.idx (.var 2) (.int 0)) (.cons (.idx (.var 2) (.neg (.int 1))) .nil))) .non)) .nil)))⟩ := rfl
theorem G_told_so_far : prog[I_told_so_far]? = some ⟨2, 4, [0, 1], (.cons (.ex (.call I_check_answers [] (.cons (.var 0) (.cons (.var 1) .nil)))) (.cons (.asgT [2, 3] (.call I_left_by [] (.cons (.var 0) (.cons (.var 1) .nil)))) (.cons (.ret (.ite (.cmp .eq (.bi .len (.cons (.var 2) .nil)) (.int 1)) (.bin .add (.var 2) (.var 3)) (.var 3))) .nil)))⟩ := rfl
theorem G_open_rankings : prog[I_open_rankings]? = some ⟨2, 4, [0, 1], (.cons (.ex (.call I_check_answers [] (.cons (.var 0) (.cons (.var 1) .nil)))) (.cons (.asg false 2 (.int 1)) (.cons (.for_ (.nm 3) (.rng1 (.bin .sub (.bin .sub (.bi .len (.cons (.var 0) .nil)) (.int 1)) (.bi .len (.cons (.var 1) .nil)))) (.cons (.asg false 2 (.bin .mul (.int 2) (.var 2))) .nil)) (.cons (.ret (.var 2)) .nil))))⟩ := rfl
theorem G_answers_of : prog[I_answers_of]? = some ⟨2, 2, [0, 1], (.cons (.ex (.call I_check_peaked [] (.cons (.var 0) (.cons (.var 1) .nil)))) (.cons (.ret (.call I_ends_in [] (.cons (.var 0) (.cons (.var 1) .nil)))) .nil))⟩ := rfl
theorem G__law_hash : prog[I__law_hash]? = some ⟨2, 3, [0, 1], (.cons (.asg false 2 (.bin .mod (.bi .int (.cons (.bin .add (.bin .add (.bin .add (.bin .mul (.var 0) (.int 1140671)) (.bin .mul (.bin .mul (.int 27644437) (.var 1)) (.var 1))) (.bin .mul (.int 131) (.var 1))) (.int 19)) .nil)) (.int 2147483629))) (.cons (.asg false 2 (.bin .mod (.bi .int (.cons (.bin .add (.bin .add (.bin .mul (.var 2) (.var 2)) (.bin .mul (.int 62089) (.var 1))) (.int 32416187)) .nil)) (.int 2147483587))) (.cons (.ret (.bin .mod (.bi .int (.cons (.bin .mul (.var 2) (.int 48271)) .nil)) (.int 2147483647))) .nil)))⟩ := rfl
theorem G__law_random : prog[I__law_random]? = some ⟨2, 4, [0, 1], (.cons (.ite (.cmp .gt (.idx (.var 0) (.int 0)) (.int 0)) (.cons (.asg false 2 (.bin .mod (.bi .int (.cons (.idx (.var 0) (.int 0)) .nil)) (.var 1))) (.cons (.setI 0 (.int 0) (.bin .fdiv (.idx (.var 0) (.int 0)) (.var 1))) (.cons (.ret (.var 2)) .nil))) .nil) (.cons (.asg false 2 (.int 0)) (.cons (.for_ (.nm 3) (.rng1 (.bin .add (.int 1) (.bin .fdiv (.mt .bitlen (.var 1) .nil) (.int 30)))) (.cons (.setI 0 (.int 2) (.bin .add (.idx (.var 0) (.int 2)) (.int 1))) (.cons (.asg false 2 (.bin .add (.bin .mul (.var 2) (.int 2147483587)) (.call I__law_hash [] (.cons (.idx (.var 0) (.int 1)) (.cons (.idx (.var 0) (.int 2)) .nil))))) .nil))) (.cons (.ret (.bin .mod (.bi .int (.cons (.var 2) .nil)) (.var 1))) .nil))))⟩ := rfl
theorem G__law_cell : prog[I__law_cell]? = some ⟨2, 2, [0, 1], (.cons (.ite (.cmp .lt (.var 1) (.bi .len (.cons (.var 0) .nil))) (.cons (.ret (.idx (.var 0) (.var 1))) .nil) .nil) (.cons (.ret (.bin .mod (.bi .sum (.cons (.slc (.var 0) .no (.so (.int 1))) .nil)) (.int 1000003))) .nil))⟩ := rfl
theorem G__law_generator : prog[I__law_generator]? = some ⟨2, 3, [0, 1], (.cons (.asg false 2 (.call I__law_cell [] (.cons (.var 0) (.cons (.var 1) .nil)))) (.cons (.ret (.lst (.cons (.bin .mod (.bi .int (.cons (.bi .max2 (.cons (.bin .sub (.var 2) (.bin .pow (.int 10) (.int 18))) (.cons (.int 0) .nil))) .nil)) (.bin .pow (.bin .pow (.int 10) (.int 60)) (.int 10))) (.cons (.bin .mod (.bi .int (.cons (.var 2) .nil)) (.int 2147483647)) (.cons (.bin .mul (.int 1000) (.var 1)) .nil))))) .nil))⟩ := rfl
theorem G__law_drawn_order : prog[I__law_drawn_order]? = some ⟨2, 4, [0, 1], (.cons (.par [true, true] [2, 3] (.cons (.lcp (.var 1)) (.cons (.lst .nil) .nil))) (.cons (.whl (.cmp .ne (.var 2) (.lst .nil)) (.cons (.app 3 (.pop 2 (.call I__law_random [] (.cons (.ioa 0) (.cons (.bi .len (.cons (.var 2) .nil)) .nil))))) .nil)) (.cons (.ret (.var 3)) .nil)))⟩ := rfl
theorem G__law_same : prog[I__law_same]? = some ⟨2, 3, [0, 1], (.cons (.ite (.bop false (.cons (.cmp .is_ (.var 1) .non) (.cons (.cmp .is_ (.var 1) (.bl true)) (.cons (.cmp .is_ (.var 1) (.bl false)) .nil)))) (.cons (.ret (.ite (.cmp .is_ (.var 1) .non) (.cmp .is_ (.var 0) .non) (.ite (.cmp .is_ (.var 1) (.bl true)) (.cmp .is_ (.var 0) (.bl true)) (.cmp .is_ (.var 0) (.bl false))))) .nil) .nil) (.cons (.ite (.isi [.list, .tuple] (.var 1)) (.cons (.ite (.bop false (.cons (.bop true (.cons (.not (.isi [.list] (.var 0))) (.cons (.isi [.list] (.var 1)) .nil))) (.cons (.bop true (.cons (.not (.isi [.tuple] (.var 0))) (.cons (.isi [.tuple] (.var 1)) .nil))) .nil))) (.cons (.ret (.bl false)) .nil) .nil) (.cons (.ret (.bop true (.cons (.cmp .eq (.bi .len (.cons (.var 0) .nil)) (.bi .len (.cons (.var 1) .nil))) (.cons (.cmp .eq (.comp (.nm 2) (.rng1 (.bi .len (.cons (.var 1) .nil))) (.cons (.not (.call I__law_same [] (.cons (.idx (.var 0) (.var 2)) (.cons (.idx (.var 1) (.var 2)) .nil)))) .nil) (.var 2)) (.lst .nil)) .nil)))) .nil)) .nil) (.cons (.ite (.isi [.int] (.var 1)) (.cons (.ret (.bop true (.cons (.isi [.int] (.var 0)) (.cons (.not (.isi [.bool] (.var 0))) (.cons (.cmp .eq (.var 0) (.var 1)) .nil))))) .nil) .nil) (.cons (.ret (.bop true (.cons (.isi [.str] (.var 0)) (.cons (.cmp .eq (.var 0) (.var 1)) .nil)))) .nil))))⟩ := rfl

theorem G__law_alike : prog[I__law_alike]? = some ⟨2, 2, [0, 1], (.cons (.ret (.cmp .eq (.bi .repr (.cons (.var 0) .nil)) (.bi .repr (.cons (.var 1) .nil)))) .nil)⟩ := rfl


theorem G__law_axis : prog[I__law_axis]? = some ⟨2, 2, [0, 1], (.cons (.ret (.call I__law_drawn_order [] (.cons (.ioa 0) (.cons (.lof (.rng1 (.bin .add (.int 1) (.call I__law_random [] (.cons (.ioa 0) (.cons (.var 1) .nil)))))) .nil)))) .nil)⟩ := rfl
theorem G__law_peaked : prog[I__law_peaked]? = some ⟨2, 5, [0, 1], (.cons (.asg false 2 (.comp (.nm 3) (.seq (.var 0)) .nil (.mt .index (.var 1) (.cons (.var 3) .nil)))) (.cons (.ret (.cmp .eq (.comp (.nm 4) (.rng2 (.int 1) (.bi .len (.cons (.var 2) .nil))) (.cons (.cmp .ne (.bin .sub (.bi .maxL (.cons (.slc (.var 2) .no (.so (.var 4))) .nil)) (.bi .minL (.cons (.slc (.var 2) .no (.so (.var 4))) .nil))) (.bin .sub (.var 4) (.int 1))) .nil) (.var 4)) (.lst .nil))) .nil))⟩ := rfl
theorem G__law_by_ends : prog[I__law_by_ends]? = some ⟨2, 7, [0, 1], (.cons (.par [false, false] [3, 4] (.cons (.lcp (.var 0)) (.cons (.lst .nil) .nil))) (.cons (.for_ (.nm 2) (.seq (.var 1)) (.cons (.asg false 5 (.idx (.var 3) (.neg (.var 2)))) (.cons (.asg false 4 (.bin .add (.lst (.cons (.var 5) .nil)) (.var 4))) (.cons (.asg false 3 (.comp (.nm 6) (.seq (.var 3)) (.cons (.cmp .ne (.var 6) (.var 5)) .nil) (.var 6))) .nil)))) (.cons (.ret (.bin .add (.var 3) (.var 4))) .nil)))⟩ := rfl
theorem G__law_peaked_drawn : prog[I__law_peaked_drawn]? = some ⟨2, 3, [0, 1], (.cons (.ret (.call I__law_by_ends [] (.cons (.var 1) (.cons (.comp (.nm 2) (.rng1 (.bin .sub (.bi .len (.cons (.var 1) .nil)) (.int 1))) .nil (.call I__law_random [] (.cons (.ioa 0) (.cons (.int 2) .nil)))) .nil)))) .nil)⟩ := rfl
theorem G__law_all_peaked : prog[I__law_all_peaked]? = some ⟨1, 4, [0], (.cons (.asg false 1 (.lst (.cons (.lst .nil) .nil))) (.cons (.for_ (.nm 2) (.rng1 (.bin .sub (.bi .len (.cons (.var 0) .nil)) (.int 1))) (.cons (.asg false 1 (.bi .sumL (.cons (.comp (.nm 3) (.seq (.var 1)) .nil (.lst (.cons (.bin .add (.var 3) (.lst (.cons (.int 0) .nil))) (.cons (.bin .add (.var 3) (.lst (.cons (.int 1) .nil))) .nil)))) .nil))) .nil)) (.cons (.ret (.bi .sorted (.cons (.comp (.nm 3) (.seq (.var 1)) .nil (.call I__law_by_ends [] (.cons (.var 0) (.cons (.var 3) .nil)))) .nil))) .nil)))⟩ := rfl
theorem G__law_wrong_axes : prog[I__law_wrong_axes]? = some ⟨0, 0, [], (.cons (.ret (.lst (.cons .non (.cons (.int 7) (.cons (.tup .nil) (.cons (.lst .nil) (.cons (.tup (.cons (.int 0) (.cons (.int 1) .nil))) (.cons (.lst (.cons (.int 1) .nil)) (.cons (.lst (.cons (.int 0) (.cons (.int 0) .nil))) (.cons (.lst (.cons (.int 0) (.cons (.int 2) .nil))) (.cons (.lst (.cons (.int 0) (.cons (.int 1) (.cons (.int 3) .nil)))) (.cons (.lst (.cons (.bl true) .nil)) (.cons (.lst (.cons .non .nil)) (.cons (.lst (.cons (.str "0") .nil)) (.cons (.lst (.cons (.lst (.cons (.int 0) .nil)) .nil)) (.cons (.lst (.cons (.bin .sub (.int 0) (.int 1)) (.cons (.int 0) .nil))) (.cons (.lof (.rng1 (.int 8))) (.cons .dct .nil)))))))))))))))))) .nil)⟩ := rfl
theorem G__law_wrong_rankings : prog[I__law_wrong_rankings]? = some ⟨1, 2, [0], (.cons (.asg false 1 (.lof (.rng1 (.var 0)))) (.cons (.ret (.lst (.cons .non (.cons (.int 7) (.cons (.tup .nil) (.cons .dct (.cons (.bi .toTuple (.cons (.var 1) .nil)) (.cons (.slc (.var 1) (.so (.int 1)) .no) (.cons (.bin .add (.var 1) (.lst (.cons (.var 0) .nil))) (.cons (.bin .add (.lst (.cons (.var 0) .nil)) (.slc (.var 1) (.so (.int 1)) .no)) (.cons (.bin .add (.lst (.cons (.bin .sub (.int 0) (.int 1)) .nil)) (.slc (.var 1) (.so (.int 1)) .no)) (.cons (.bin .add (.lst (.cons .non .nil)) (.slc (.var 1) (.so (.int 1)) .no)) (.cons (.bin .add (.lst (.cons (.str "0") .nil)) (.slc (.var 1) (.so (.int 1)) .no)) (.cons (.bin .add (.lst (.cons (.lst (.cons (.int 0) .nil)) .nil)) (.slc (.var 1) (.so (.int 1)) .no)) (.cons (.bin .mul (.lst (.cons (.bl true) .nil)) (.var 0)) .nil))))))))))))))) .nil))⟩ := rfl
theorem G_law : prog[I_law]? = some ⟨1, 18, [0], (.cons (.asg true 1 (.call I__law_generator [] (.cons (.var 0) (.cons (.int 0) .nil)))) (.cons (.for_ (.nm 2) (.rng1 (.int 2)) (.cons (.asg false 4 (.call I__law_axis [] (.cons (.ioa 1) (.cons (.int 7) .nil)))) (.cons (.par [false, false] [7, 8] (.cons (.call I__law_peaked_drawn [] (.cons (.ioa 1) (.cons (.var 4) .nil))) (.cons (.bi .repr (.cons (.var 4) .nil)) .nil))) (.cons (.par [false, false, false, false] [9, 5, 10, 11] (.cons (.lcp (.var 4)) (.cons (.lst .nil) (.cons (.lst .nil) (.cons (.call I__law_all_peaked [] (.cons (.var 4) .nil)) .nil))))) (.cons (.whl (.cmp .gt (.bi .len (.cons (.var 9) .nil)) (.int 1)) (.cons (.asg false 12 (.tup (.cons (.idx (.var 9) (.int 0)) (.cons (.idx (.var 9) (.neg (.int 1))) .nil)))) (.cons (.asg false 13 (.lst (.cons (.var 12) (.cons (.var 5) (.cons (.bi .len (.cons (.comp (.nm 17) (.seq (.var 11)) (.cons (.cmp .eq (.slc (.var 17) (.so (.bin .sub (.bi .len (.cons (.var 17) .nil)) (.bi .len (.cons (.var 5) .nil)))) .no) (.var 5)) .nil) (.var 17)) .nil)) .nil))))) (.blk [0, 1, 2, 3, 4, 5, 6, 7, 8, 9, 10, 11, 12, 13, 15] (.cons (.asg false 14 (.lst (.cons (.call I_question [] (.cons (.var 4) (.cons (.var 10) .nil))) (.cons (.call I_told_so_far [] (.cons (.var 4) (.cons (.var 10) .nil))) (.cons (.call I_open_rankings [] (.cons (.var 4) (.cons (.var 10) .nil))) .nil))))) (.cons (.ite (.bop false (.cons (.not (.call I__law_same [] (.cons (.var 14) (.cons (.var 13) .nil)))) (.cons (.not (.call I__law_same [] (.cons (.lst (.cons (.call I_question [1, 0] (.cons (.var 10) (.cons (.var 4) .nil))) (.cons (.call I_told_so_far [1, 0] (.cons (.var 10) (.cons (.var 4) .nil))) (.cons (.call I_open_rankings [1, 0] (.cons (.var 10) (.cons (.var 4) .nil))) .nil)))) (.cons (.var 13) .nil)))) .nil))) (.cons (.ret (.bl false)) .nil) .nil) (.cons (.scr [0, 1, 2, 3, 4, 5, 6, 7, 8, 9, 10, 11, 12, 13, 15] (.idx (.var 14) (.int 1)) (.int 7)) .nil))) (.cons (.ite (.not (.call I__law_same [] (.cons (.call I_told_so_far [] (.cons (.var 4) (.cons (.var 10) .nil))) (.cons (.var 5) .nil)))) (.cons (.ret (.bl false)) .nil) .nil) (.cons (.asg false 15 (.ite (.cmp .gt (.mt .index (.var 7) (.cons (.idx (.var 12) (.int 0)) .nil)) (.mt .index (.var 7) (.cons (.idx (.var 12) (.int 1)) .nil))) (.idx (.var 12) (.int 0)) (.idx (.var 12) (.int 1)))) (.cons (.par [false, false, false] [10, 5, 9] (.cons (.bin .add (.var 10) (.lst (.cons (.bi .int (.cons (.cmp .eq (.var 15) (.idx (.var 12) (.int 1))) .nil)) .nil))) (.cons (.bin .add (.lst (.cons (.var 15) .nil)) (.var 5)) (.cons (.comp (.nm 16) (.seq (.var 9)) (.cons (.cmp .ne (.var 16) (.var 15)) .nil) (.var 16)) .nil)))) .nil))))))) (.cons (.ite (.not (.call I__law_same [] (.cons (.lst (.cons (.call I_question [] (.cons (.var 4) (.cons (.var 10) .nil))) (.cons (.call I_told_so_far [] (.cons (.var 4) (.cons (.var 10) .nil))) (.cons (.call I_open_rankings [] (.cons (.var 4) (.cons (.var 10) .nil))) (.cons (.call I_answers_of [] (.cons (.var 4) (.cons (.var 7) .nil))) (.cons (.call I_answers_of [1, 0] (.cons (.var 7) (.cons (.var 4) .nil))) .nil)))))) (.cons (.lst (.cons .non (.cons (.var 7) (.cons (.int 1) (.cons (.var 10) (.cons (.var 10) .nil)))))) .nil)))) (.cons (.ret (.bl false)) .nil) .nil) (.cons (.ex (.apf (.call I_answers_of [] (.cons (.var 4) (.cons (.var 7) .nil))) (.int 7))) (.cons (.ite (.bop false (.cons (.cmp .ne (.bi .len (.cons (.var 11) .nil)) (.call I_open_rankings [] (.cons (.var 4) (.cons (.lst .nil) .nil)))) (.cons (.not (.call I__law_same [] (.cons (.call I_answers_of [] (.cons (.var 4) (.cons (.var 7) .nil))) (.cons (.var 10) .nil)))) (.cons (.cmp .ne (.bi .repr (.cons (.var 4) .nil)) (.var 8)) .nil)))) (.cons (.ret (.bl false)) .nil) .nil) (.cons (.asg false 6 (.call I__law_drawn_order [] (.cons (.ioa 1) (.cons (.var 4) .nil)))) (.cons (.ite (.bop true (.cons (.not (.call I__law_peaked [] (.cons (.var 6) (.cons (.var 4) .nil)))) (.cons (.not (.rfd (.call I_answers_of [] (.cons (.var 4) (.cons (.var 6) .nil))) (.str "unpeaked") (.var 6) I__law_alike ["ballots", "ranking", "axis", "row", "counts", "number", "places", "voter", "thing", "things", "names", "text", "beats", "edit", "unpeaked", "many"])) .nil))) (.cons (.ret (.bl false)) .nil) .nil) (.cons (.for_ (.nm 3) (.seq (.lst (.cons .non (.cons (.int 7) (.cons (.tup .nil) (.cons (.bi .toTuple (.cons (.var 10) .nil)) (.cons (.bin .add (.var 10) (.lst (.cons (.int 0) .nil))) (.cons (.lst (.cons (.int 2) .nil)) (.cons (.lst (.cons (.bl true) .nil)) (.cons (.lst (.cons .non .nil)) (.cons .dct .nil))))))))))) (.cons (.ite (.not (.rfa (.cons (.call I_question [] (.cons (.var 4) (.cons (.var 3) .nil))) (.cons (.call I_told_so_far [] (.cons (.var 4) (.cons (.var 3) .nil))) (.cons (.call I_open_rankings [] (.cons (.var 4) (.cons (.var 3) .nil))) .nil))) (.str "row") (.var 3) I__law_alike ["ballots", "ranking", "axis", "row", "counts", "number", "places", "voter", "thing", "things", "names", "text", "beats", "edit", "unpeaked", "many"])) (.cons (.ret (.bl false)) .nil) .nil) .nil)) (.cons (.for_ (.nm 3) (.seq (.call I__law_wrong_rankings [] (.cons (.bi .len (.cons (.var 4) .nil)) .nil))) (.cons (.ite (.not (.rfd (.call I_answers_of [] (.cons (.var 4) (.cons (.var 3) .nil))) (.str "ranking") (.var 3) I__law_alike ["ballots", "ranking", "axis", "row", "counts", "number", "places", "voter", "thing", "things", "names", "text", "beats", "edit", "unpeaked", "many"])) (.cons (.ret (.bl false)) .nil) .nil) .nil)) .nil)))))))))))) (.cons (.for_ (.nm 3) (.seq (.call I__law_wrong_axes [] .nil)) (.cons (.ite (.not (.rfa (.cons (.call I_question [] (.cons (.var 3) (.cons .non .nil))) (.cons (.call I_told_so_far [] (.cons (.var 3) (.cons .non .nil))) (.cons (.call I_open_rankings [] (.cons (.var 3) (.cons .non .nil))) (.cons (.call I_answers_of [] (.cons (.var 3) (.cons .non .nil))) .nil)))) (.str "axis") (.var 3) I__law_alike ["ballots", "ranking", "axis", "row", "counts", "number", "places", "voter", "thing", "things", "names", "text", "beats", "edit", "unpeaked", "many"])) (.cons (.ret (.bl false)) .nil) .nil) .nil)) (.cons (.asg false 4 (.lst (.cons (.int 0) (.cons (.int 1) (.cons (.int 2) (.cons (.int 3) .nil)))))) (.cons (.asg false 5 (.lst (.cons (.call I_question [] (.cons (.var 4) (.cons (.lst .nil) .nil))) (.cons (.call I_question [] (.cons (.var 4) (.cons (.lst (.cons (.int 0) .nil)) .nil))) (.cons (.call I_question [] (.cons (.var 4) (.cons (.lst (.cons (.int 0) (.cons (.int 1) (.cons (.int 0) .nil)))) .nil))) (.cons (.call I_told_so_far [] (.cons (.var 4) (.cons (.lst (.cons (.int 0) .nil)) .nil))) (.cons (.call I_told_so_far [] (.cons (.var 4) (.cons (.lst (.cons (.int 0) (.cons (.int 1) (.cons (.int 0) .nil)))) .nil))) (.cons (.call I_open_rankings [] (.cons (.var 4) (.cons (.lst (.cons (.int 0) .nil)) .nil))) .nil)))))))) (.cons (.asg false 5 (.bin .add (.var 5) (.lst (.cons (.call I_answers_of [] (.cons (.var 4) (.cons (.lst (.cons (.int 2) (.cons (.int 1) (.cons (.int 3) (.cons (.int 0) .nil))))) .nil))) (.cons (.call I_told_so_far [] (.cons (.lst (.cons (.int 0) .nil)) (.cons (.lst .nil) .nil))) .nil))))) (.cons (.ret (.call I__law_same [] (.cons (.var 5) (.cons (.lst (.cons (.tup (.cons (.int 0) (.cons (.int 3) .nil))) (.cons (.tup (.cons (.int 1) (.cons (.int 3) .nil))) (.cons .non (.cons (.lst (.cons (.int 0) .nil)) (.cons (.lst (.cons (.int 2) (.cons (.int 1) (.cons (.int 3) (.cons (.int 0) .nil))))) (.cons (.int 4) (.cons (.lst (.cons (.int 0) (.cons (.int 1) (.cons (.int 0) .nil)))) (.cons (.lst (.cons (.int 0) .nil)) .nil))))))))) .nil)))) .nil)))))))⟩ := rfl
end Pg
namespace Pg
open PySem PySem.Spec PyProof.Rows L2 Rf
def top (i : Nat) : Stmt := PySem.Challenge.pw_alongline_k70_whole_ends_asked_for.main.body.getD i (.Pass ⟨0, 0, 0, 0⟩)
def p0 : Pd := { x := "is_whole", st := top 19, N := (["value"] : List PySem.Str), ps := (["value"] : List PySem.Str), F := F_is_whole }
def p1 : Pd := { x := "is_count", st := top 22, N := (["value"] : List PySem.Str), ps := (["value"] : List PySem.Str), F := F_is_count }
def p2 : Pd := { x := "is_below", st := top 23, N := (["value", "bound"] : List PySem.Str), ps := (["value", "bound"] : List PySem.Str), F := F_is_below }
def p3 : Pd := { x := "is_order_of", st := top 24, N := (["many", "value", "one"] : List PySem.Str), ps := (["many", "value"] : List PySem.Str), F := F_is_order_of }
def p4 : Pd := { x := "is_ranking", st := top 25, N := (["value"] : List PySem.Str), ps := (["value"] : List PySem.Str), F := F_is_ranking }
def p5 : Pd := { x := "check_ranking", st := top 26, N := (["ranking", "many"] : List PySem.Str), ps := (["ranking", "many"] : List PySem.Str), F := F_check_ranking }
def p6 : Pd := { x := "is_peaked_on", st := top 27, N := (["ranking", "axis", "left", "right", "thing", "place"] : List PySem.Str), ps := (["ranking", "axis"] : List PySem.Str), F := F_is_peaked_on }
def p7 : Pd := { x := "check_line", st := top 29, N := (["axis"] : List PySem.Str), ps := (["axis"] : List PySem.Str), F := F_check_line }
def p8 : Pd := { x := "check_peaked", st := top 30, N := (["axis", "ranking"] : List PySem.Str), ps := (["axis", "ranking"] : List PySem.Str), F := F_check_peaked }
def p9 : Pd := { x := "ends_in", st := top 31, N := (["axis", "ranking", "left", "row", "thing"] : List PySem.Str), ps := (["axis", "ranking"] : List PySem.Str), F := F_ends_in }
def p10 : Pd := { x := "are_letters", st := top 32, N := (["value", "many", "letter"] : List PySem.Str), ps := (["value", "many"] : List PySem.Str), F := F_are_letters }
def p11 : Pd := { x := "check_answers", st := top 34, N := (["axis", "row"] : List PySem.Str), ps := (["axis", "row"] : List PySem.Str), F := F_check_answers }
def p12 : Pd := { x := "left_by", st := top 35, N := (["axis", "row", "left", "told", "letter", "thing"] : List PySem.Str), ps := (["axis", "row"] : List PySem.Str), F := F_left_by }
def p13 : Pd := { x := "question", st := top 36, N := (["axis", "row", "left", "told"] : List PySem.Str), ps := (["axis", "row"] : List PySem.Str), F := F_question }
def p14 : Pd := { x := "told_so_far", st := top 37, N := (["axis", "row", "left", "told"] : List PySem.Str), ps := (["axis", "row"] : List PySem.Str), F := F_told_so_far }
def p15 : Pd := { x := "open_rankings", st := top 38, N := (["axis", "row", "many", "turn"] : List PySem.Str), ps := (["axis", "row"] : List PySem.Str), F := F_open_rankings }
def p16 : Pd := { x := "answers_of", st := top 39, N := (["axis", "ranking"] : List PySem.Str), ps := (["axis", "ranking"] : List PySem.Str), F := F_answers_of }
def p17 : Pd := { x := "_law_hash", st := top 41, N := (["seed", "index", "mixed"] : List PySem.Str), ps := (["seed", "index"] : List PySem.Str), F := F__law_hash }
def p18 : Pd := { x := "_law_random", st := top 42, N := (["generator", "bound", "drawn", "turn"] : List PySem.Str), ps := (["generator", "bound"] : List PySem.Str), F := F__law_random }
def p19 : Pd := { x := "_law_cell", st := top 43, N := (["script", "index"] : List PySem.Str), ps := (["script", "index"] : List PySem.Str), F := F__law_cell }
def p20 : Pd := { x := "_law_generator", st := top 44, N := (["script", "index", "seed"] : List PySem.Str), ps := (["script", "index"] : List PySem.Str), F := F__law_generator }
def p21 : Pd := { x := "_law_drawn_order", st := top 45, N := (["generator", "things", "left", "found"] : List PySem.Str), ps := (["generator", "things"] : List PySem.Str), F := F__law_drawn_order }
def p22 : Pd := { x := "_law_same", st := top 46, N := (["told", "due", "at"] : List PySem.Str), ps := (["told", "due"] : List PySem.Str), F := F__law_same }
def p23 : Pd := { x := "_law_caught", st := top 47, N := (["call", "caught", "e", "kinds", "words"] : List PySem.Str), ps := (["call"] : List PySem.Str), F := F__law_caught }
def p24 : Pd := { x := "_law_alike", st := top 48, N := (["told", "due"] : List PySem.Str), ps := (["told", "due"] : List PySem.Str), F := F__law_alike }
def p25 : Pd := { x := "_law_refused", st := top 49, N := (["call", "word", "value", "told"] : List PySem.Str), ps := (["call", "word", "value"] : List PySem.Str), F := F__law_refused }
def p26 : Pd := { x := "_law_all_refused", st := top 50, N := (["calls", "word", "value", "call"] : List PySem.Str), ps := (["calls", "word", "value"] : List PySem.Str), F := F__law_all_refused }
def p27 : Pd := { x := "_law_axis", st := top 51, N := (["generator", "most"] : List PySem.Str), ps := (["generator", "most"] : List PySem.Str), F := F__law_axis }
def p28 : Pd := { x := "_law_peaked", st := top 52, N := (["ranking", "axis", "places", "thing", "many"] : List PySem.Str), ps := (["ranking", "axis"] : List PySem.Str), F := F__law_peaked }
def p29 : Pd := { x := "_law_by_ends", st := top 53, N := (["axis", "row", "letter", "left", "told", "thing", "one"] : List PySem.Str), ps := (["axis", "row"] : List PySem.Str), F := F__law_by_ends }
def p30 : Pd := { x := "_law_peaked_drawn", st := top 54, N := (["generator", "axis", "turn"] : List PySem.Str), ps := (["generator", "axis"] : List PySem.Str), F := F__law_peaked_drawn }
def p31 : Pd := { x := "_law_all_peaked", st := top 55, N := (["axis", "rows", "turn", "row"] : List PySem.Str), ps := (["axis"] : List PySem.Str), F := F__law_all_peaked }
def p32 : Pd := { x := "_law_wrong_axes", st := top 56, N := ([] : List PySem.Str), ps := ([] : List PySem.Str), F := F__law_wrong_axes }
def p33 : Pd := { x := "_law_wrong_rankings", st := top 57, N := (["many", "good"] : List PySem.Str), ps := (["many"] : List PySem.Str), F := F__law_wrong_rankings }
def p34 : Pd := { x := "law", st := top 58, N := (["script", "generator", "turn", "bad", "axis", "told", "drawn", "ranking", "kept", "left", "row", "every", "ends", "due", "shown", "last"] : List PySem.Str) ++ (["thing", "one"] : List PySem.Str), ps := (["script"] : List PySem.Str), F := F_law }
def pg : List Pd := ([p0, p1, p2, p3, p4, p5, p6, p7, p8, p9, p10, p11, p12, p13, p14, p15] : List Pd) ++ ([p16, p17, p18, p19, p20, p21, p22, p23, p24, p25, p26, p27, p28, p29, p30, p31] : List Pd) ++ ([p32, p33, p34] : List Pd)
def gt : Gt := { fns := (["is_whole", "is_count", "is_below", "is_order_of", "is_ranking", "check_ranking", "is_peaked_on", "check_line", "check_peaked", "ends_in", "are_letters", "check_answers", "left_by", "question", "told_so_far", "open_rankings"] : List PySem.Str) ++ (["answers_of", "_law_hash", "_law_random", "_law_cell", "_law_generator", "_law_drawn_order", "_law_same", "_law_caught", "_law_alike", "_law_refused", "_law_all_refused", "_law_axis", "_law_peaked", "_law_by_ends", "_law_peaked_drawn", "_law_all_peaked"] : List PySem.Str) ++ (["_law_wrong_axes", "_law_wrong_rankings", "law"] : List PySem.Str), cls := (["InvalidBallots", "InvalidRanking", "InvalidAxis", "InvalidRow", "InvalidCounts", "InvalidNumber", "InvalidPlaces", "InvalidVoter", "InvalidThing", "InvalidThings", "InvalidNames", "InvalidText", "InvalidBeats", "InvalidEdit", "Unpeaked", "TooMany"] : List PySem.Str), gis := ([("MOST_THINGS", 7)] : List (PySem.Str × Int)), free := (["ValueError", "bool", "int", "isinstance", "len", "list", "max", "min", "range", "repr", "sorted", "str", "sum", "super", "tuple"] : List PySem.Str), kws := ([(13, [1, 0], (["row", "axis"] : List PySem.Str)), (14, [1, 0], (["row", "axis"] : List PySem.Str)), (15, [1, 0], (["row", "axis"] : List PySem.Str)), (16, [1, 0], (["ranking", "axis"] : List PySem.Str))] : List (Nat × List Nat × List PySem.Str)), rfa := some (24, 23, 25), tops := ["LineError"], raa := some 26 }
def clsBody : PySem.Stmt → List PySem.Stmt
  | .ClassDef _ _ _ b _ _ _ _ _ _ _ => b
  | _ => []
def ini0 : IniD := ⟨"InvalidBallots", "InvalidBallots.__init__", defArgs ((clsBody (top 2)).getD 0 (top 0)), defBody ((clsBody (top 2)).getD 0 (top 0))⟩
def ini1 : IniD := ⟨"InvalidRanking", "InvalidRanking.__init__", defArgs ((clsBody (top 3)).getD 0 (top 0)), defBody ((clsBody (top 3)).getD 0 (top 0))⟩
def ini2 : IniD := ⟨"InvalidAxis", "InvalidAxis.__init__", defArgs ((clsBody (top 4)).getD 0 (top 0)), defBody ((clsBody (top 4)).getD 0 (top 0))⟩
def ini3 : IniD := ⟨"InvalidRow", "InvalidRow.__init__", defArgs ((clsBody (top 5)).getD 0 (top 0)), defBody ((clsBody (top 5)).getD 0 (top 0))⟩
def ini4 : IniD := ⟨"InvalidCounts", "InvalidCounts.__init__", defArgs ((clsBody (top 6)).getD 0 (top 0)), defBody ((clsBody (top 6)).getD 0 (top 0))⟩
def ini5 : IniD := ⟨"InvalidNumber", "InvalidNumber.__init__", defArgs ((clsBody (top 7)).getD 0 (top 0)), defBody ((clsBody (top 7)).getD 0 (top 0))⟩
def ini6 : IniD := ⟨"InvalidPlaces", "InvalidPlaces.__init__", defArgs ((clsBody (top 8)).getD 0 (top 0)), defBody ((clsBody (top 8)).getD 0 (top 0))⟩
def ini7 : IniD := ⟨"InvalidVoter", "InvalidVoter.__init__", defArgs ((clsBody (top 9)).getD 0 (top 0)), defBody ((clsBody (top 9)).getD 0 (top 0))⟩
def ini8 : IniD := ⟨"InvalidThing", "InvalidThing.__init__", defArgs ((clsBody (top 10)).getD 0 (top 0)), defBody ((clsBody (top 10)).getD 0 (top 0))⟩
def ini9 : IniD := ⟨"InvalidThings", "InvalidThings.__init__", defArgs ((clsBody (top 11)).getD 0 (top 0)), defBody ((clsBody (top 11)).getD 0 (top 0))⟩
def ini10 : IniD := ⟨"InvalidNames", "InvalidNames.__init__", defArgs ((clsBody (top 12)).getD 0 (top 0)), defBody ((clsBody (top 12)).getD 0 (top 0))⟩
def ini11 : IniD := ⟨"InvalidText", "InvalidText.__init__", defArgs ((clsBody (top 13)).getD 0 (top 0)), defBody ((clsBody (top 13)).getD 0 (top 0))⟩
def ini12 : IniD := ⟨"InvalidBeats", "InvalidBeats.__init__", defArgs ((clsBody (top 14)).getD 0 (top 0)), defBody ((clsBody (top 14)).getD 0 (top 0))⟩
def ini13 : IniD := ⟨"InvalidEdit", "InvalidEdit.__init__", defArgs ((clsBody (top 15)).getD 0 (top 0)), defBody ((clsBody (top 15)).getD 0 (top 0))⟩
def ini14 : IniD := ⟨"Unpeaked", "Unpeaked.__init__", defArgs ((clsBody (top 16)).getD 0 (top 0)), defBody ((clsBody (top 16)).getD 0 (top 0))⟩
def ini15 : IniD := ⟨"TooMany", "TooMany.__init__", defArgs ((clsBody (top 17)).getD 0 (top 0)), defBody ((clsBody (top 17)).getD 0 (top 0))⟩
def inis : List IniD := [ini0, ini1, ini2, ini3, ini4, ini5, ini6, ini7, ini8, ini9, ini10, ini11, ini12, ini13, ini14, ini15]
def loose : List PySem.Str := (["is_whole", "is_count", "is_below", "is_order_of", "is_ranking", "check_ranking", "is_peaked_on", "check_line", "check_peaked", "ends_in", "are_letters", "check_answers", "left_by", "question", "told_so_far", "open_rankings"] : List PySem.Str) ++ (["answers_of", "_law_hash", "_law_random", "_law_cell", "_law_generator", "_law_drawn_order", "_law_same", "_law_caught", "_law_alike", "_law_refused", "_law_all_refused", "_law_axis", "_law_peaked", "_law_by_ends", "_law_peaked_drawn", "_law_all_peaked"] : List PySem.Str) ++ (["_law_wrong_axes", "_law_wrong_rankings", "LineError", "InvalidBallots", "InvalidRanking", "InvalidAxis", "InvalidRow", "InvalidCounts", "InvalidNumber", "InvalidPlaces", "InvalidVoter", "InvalidThing", "InvalidThings", "InvalidNames", "InvalidText", "InvalidBeats"] : List PySem.Str) ++ (["InvalidEdit", "Unpeaked", "TooMany", "MOST_THINGS"] : List PySem.Str)
abbrev R : PySem.W.OpenRow := PySem.W.OpenLaw.row PySem.Challenge.rw_alongline_k70_whole_ends_asked_for
abbrev hk : PySem.W.Hook := hookY 4 (faOf gt pg) (pg.map dOf) (tfOf pg inis) (exOf R.prog pg inis gt.tops) inis
def ob (s : PySem.W.SharedT) : AlY := obsY 4 (faOf gt pg) (pg.map dOf) (tfOf pg inis) (exOf R.prog pg inis gt.tops) inis (HandSHeadRun.getT s)
theorem ob_eq (s : PySem.W.SharedT) : ob s = hk.obs s.abs := obsY_eq (HandSHeadRun.getT_eq s)
theorem run (w : World) : HandSHeadRun.RunEq R (PySem.W.view R.prog [58]) hk ob 20000 loose w := by
  intro os
  kernel_rfl
end Pg
set_option linter.all false
set_option maxRecDepth 100000
set_option maxHeartbeats 1000000
set_option Elab.async false
/-! Rf soundness, part 1: how data lie in the abstract heap; regions; steps. -/
namespace Rf
open PySem PySem.Spec PyProof.Rows L2
def Sub (H H' : Hp) : Prop := ∀ a o, H a = some o → H' a = some o
theorem Sub.refl (H : Hp) : Sub H H := fun _ _ h => h
theorem Sub.trans {H H1 H2 : Hp} (a : Sub H H1) (b : Sub H1 H2) : Sub H H2 := fun x o h => b x o (a x o h)
theorem Sub.new {H : Hp} {p : Addr} {o : HO} (h : H p = none) : Sub H (upd H p o) := fun a u e => by
  rw [upd_ne (ne_of_none e h)]; exact e
theorem Sub.upd {H H' : Hp} {p : Addr} {o : HO} (s : Sub H H') : Sub (upd H p o) (upd H' p o) := fun a u e => by
  by_cases h : a = p
  · subst h; rw [upd_same] at e ⊢; exact e
  · rw [upd_ne h] at e ⊢; exact s a u e
theorem Sub.updR {H H' : Hp} {p : Addr} {o : HO} (s : Sub H H') (h : H p = none) : Sub H (L2.upd H' p o) := fun a u e => by
  rw [upd_ne (ne_of_none e h)]; exact s a u e
theorem Sub.back {H H' : Hp} {p : Addr} (s : Sub H H') (h : H' p = none) : H p = none := by
  cases e : H p with
  | none => rfl
  | some o => rw [s p o e] at h; cases h
theorem Sub.rd {H H' : Hp} {a : Addr} {u : HO} (e : Sub H H') (h : Rd H a u) : Rd H' a u := by
  rcases h with h | ⟨o, h⟩
  · exact Or.inl (e a _ h)
  · exact Or.inr ⟨o, e a _ h⟩
theorem Sub.sql {K : Fg} {H H' : Hp} {a : Addr} {xs : List V} (e : Sub H H') (h : SqL K H a xs) : SqL K H' a xs := by
  rcases h with h | h
  · exact Or.inl (e.rd h)
  · exact Or.inr h
theorem Sub.sqt {K : Fg} {H H' : Hp} {a : Addr} {xs : List V} (e : Sub H H') (h : SqT K H a xs) : SqT K H' a xs := by
  rcases h with h | h
  · exact Or.inl (e.rd h)
  · exact Or.inr h

/-- how a label stands: N what is made since the base, Hs what is shared -/
def LbOk (K : Fg) (N : Addr → Prop) (Hs : Hp) (a : Addr) (xs : List V) : Lb → Prop
  | .nu => N a ∧ Hs a = some (.lst xs)
  | .ol => Hs a = some (.lst xs)
  | .ro => SqL K Hs a xs
mutual
inductive Dq (K : Fg) (N : Addr → Prop) (Hs : Hp) : V → D → Prop
  | non : Dq K N Hs .non .non
  | bl (b : Bool) : Dq K N Hs (.bl b) (.bl b)
  | int (i : Int) : Dq K N Hs (.int i) (.int i)
  | str (x : Str) : Dq K N Hs (.str x) (.str x)
  | lst {a : Addr} {xs : List V} {f : Lb} {ds : List D} : LbOk K N Hs a xs f → DqAll K N Hs xs ds → Dq K N Hs (.ref a) (.lst f ds)
  | tup {a : Addr} {xs : List V} {ds : List D} : SqT K Hs a xs → DqAll K N Hs xs ds → Dq K N Hs (.ref a) (.tup ds)
  | dct {a : Addr} : Hs a = some (.dK []) → Dq K N Hs (.ref a) .dct
  | rng {a : Addr} {lo hi : Int} : Hs a = some (.rng lo hi) → Dq K N Hs (.ref a) (.rng lo hi)
inductive DqAll (K : Fg) (N : Addr → Prop) (Hs : Hp) : List V → List D → Prop
  | nil : DqAll K N Hs [] []
  | cons {v : V} {vs : List V} {d : D} {ds : List D} : Dq K N Hs v d → DqAll K N Hs vs ds → DqAll K N Hs (v :: vs) (d :: ds)
end
section
variable {K : Fg} {N N' : Addr → Prop} {Hs Hs' : Hp}
theorem LbOk.mono {a : Addr} {xs : List V} {f : Lb} (s : Sub Hs Hs') (h : LbOk K N Hs a xs f) : LbOk K N Hs' a xs f := by
  cases f with
  | nu => exact ⟨h.1, s _ _ h.2⟩
  | ol => exact s _ _ h
  | ro => exact s.sql h
theorem LbOk.sql {a : Addr} {xs : List V} {f : Lb} (h : LbOk K N Hs a xs f) : SqL K Hs a xs := by
  cases f with
  | nu => exact .of h.2
  | ol => exact .of h
  | ro => exact h
theorem LbOk.trk {a : Addr} {xs : List V} {f : Lb} (h : LbOk K N Hs a xs f) (t : tracked f = true) : Hs a = some (.lst xs) := by
  cases f with
  | nu => exact h.2
  | ol => exact h
  | ro => cases t
theorem LbOk.age {a : Addr} {xs : List V} {f : Lb} (h : LbOk K N Hs a xs f) : LbOk K N' Hs a xs f.age := by
  cases f with
  | nu => exact h.2
  | ol => exact h
  | ro => exact h
theorem LbOk.base {a : Addr} {xs : List V} {f : Lb} (s : ∀ b, N' b → N b) (h : LbOk K N' Hs a xs f) : LbOk K N Hs a xs f := by
  cases f with
  | nu => exact ⟨s a h.1, h.2⟩
  | ol => exact h
  | ro => exact h
mutual
theorem Dq.mono (s : Sub Hs Hs') : ∀ {d : D} {v : V}, Dq K N Hs v d → Dq K N Hs' v d
  | .non, _, h => by cases h; exact .non
  | .bl _, _, h => by cases h; exact .bl _
  | .int _, _, h => by cases h; exact .int _
  | .str _, _, h => by cases h; exact .str _
  | .lst _ _, _, h => by cases h with | lst h1 h2 => exact .lst (h1.mono s) (DqAll.mono s h2)
  | .tup _, _, h => by cases h with | tup h1 h2 => exact .tup (s.sqt h1) (DqAll.mono s h2)
  | .dct, _, h => by cases h with | dct h => exact .dct (s _ _ h)
  | .rng _ _, _, h => by cases h with | rng h => exact .rng (s _ _ h)
theorem DqAll.mono (s : Sub Hs Hs') : ∀ {ds : List D} {vs : List V}, DqAll K N Hs vs ds → DqAll K N Hs' vs ds
  | [], _, h => by cases h; exact .nil
  | _ :: _, _, h => by cases h with | cons h1 h2 => exact .cons (Dq.mono s h1) (DqAll.mono s h2)
end
mutual
theorem Dq.aged : ∀ {d : D} {v : V}, Dq K N Hs v d → Dq K N' Hs v d.age
  | .non, _, h => by cases h; exact .non
  | .bl _, _, h => by cases h; exact .bl _
  | .int _, _, h => by cases h; exact .int _
  | .str _, _, h => by cases h; exact .str _
  | .lst _ _, _, h => by cases h with | lst h1 h2 => exact .lst h1.age (DqAll.aged h2)
  | .tup _, _, h => by cases h with | tup h1 h2 => exact .tup h1 (DqAll.aged h2)
  | .dct, _, h => by cases h with | dct h => exact .dct h
  | .rng _ _, _, h => by cases h with | rng h => exact .rng h
theorem DqAll.aged : ∀ {ds : List D} {vs : List V}, DqAll K N Hs vs ds → DqAll K N' Hs vs (D.ages ds)
  | [], _, h => by cases h; exact .nil
  | _ :: _, _, h => by cases h with | cons h1 h2 => exact .cons (Dq.aged h1) (DqAll.aged h2)
end
mutual
theorem Dq.base (s : ∀ b, N' b → N b) : ∀ {d : D} {v : V}, Dq K N' Hs v d → Dq K N Hs v d
  | .non, _, h => by cases h; exact .non
  | .bl _, _, h => by cases h; exact .bl _
  | .int _, _, h => by cases h; exact .int _
  | .str _, _, h => by cases h; exact .str _
  | .lst _ _, _, h => by cases h with | lst h1 h2 => exact .lst (h1.base s) (DqAll.base s h2)
  | .tup _, _, h => by cases h with | tup h1 h2 => exact .tup h1 (DqAll.base s h2)
  | .dct, _, h => by cases h with | dct h => exact .dct h
  | .rng _ _, _, h => by cases h with | rng h => exact .rng h
theorem DqAll.base (s : ∀ b, N' b → N b) : ∀ {ds : List D} {vs : List V}, DqAll K N' Hs vs ds → DqAll K N Hs vs ds
  | [], _, h => by cases h; exact .nil
  | _ :: _, _, h => by cases h with | cons h1 h2 => exact .cons (Dq.base s h1) (DqAll.base s h2)
end
theorem DqAll.length : ∀ {ds : List D} {vs : List V}, DqAll K N Hs vs ds → vs.length = ds.length
  | [], _, h => by cases h; rfl
  | _ :: _, _, h => by cases h with | cons h1 h2 => simp [DqAll.length h2]
theorem DqAll.app : ∀ {ds es : List D} {vs ws : List V}, DqAll K N Hs vs ds → DqAll K N Hs ws es → DqAll K N Hs (vs ++ ws) (ds ++ es)
  | [], _, _, _, h, k => by cases h; exact k
  | _ :: _, _, _, _, h, k => by cases h with | cons h1 h2 => exact .cons h1 (DqAll.app h2 k)
theorem DqAll.get : ∀ {ds : List D} {vs : List V} {i : Nat} {d : D}, DqAll K N Hs vs ds → ds[i]? = some d → ∃ v, vs[i]? = some v ∧ Dq K N Hs v d
  | [], _, _, _, h, e => by simp at e
  | _ :: _, _, 0, _, h, e => by
    cases h with | cons h1 h2 => simp at e; subst e; exact ⟨_, rfl, h1⟩
  | _ :: _, _, i + 1, _, h, e => by
    cases h with
    | cons h1 h2 =>
      obtain ⟨v, q1, q2⟩ := DqAll.get (i := i) h2 (by simpa using e)
      exact ⟨v, by simpa using q1, q2⟩
theorem DqAll.take : ∀ {ds : List D} {vs : List V} (n : Nat), DqAll K N Hs vs ds → DqAll K N Hs (vs.take n) (ds.take n)
  | _, _, 0, _ => .nil
  | [], _, _ + 1, h => by cases h; exact .nil
  | _ :: _, _, n + 1, h => by cases h with | cons h1 h2 => exact .cons h1 (DqAll.take n h2)
theorem DqAll.drop : ∀ {ds : List D} {vs : List V} (n : Nat), DqAll K N Hs vs ds → DqAll K N Hs (vs.drop n) (ds.drop n)
  | _, _, 0, h => h
  | [], _, _ + 1, h => by cases h; exact .nil
  | _ :: _, _, n + 1, h => by cases h with | cons h1 h2 => exact DqAll.drop n h2
theorem DqAll.set : ∀ {ds : List D} {vs : List V} {d : D} {v : V} (n : Nat), DqAll K N Hs vs ds → Dq K N Hs v d → DqAll K N Hs (vs.set n v) (ds.set n d)
  | [], _, _, _, _, h, _ => by cases h; exact .nil
  | _ :: _, _, _, _, 0, h, k => by cases h with | cons h1 h2 => exact .cons k h2
  | _ :: _, _, _, _, n + 1, h, k => by cases h with | cons h1 h2 => exact .cons h1 (DqAll.set n h2 k)
theorem DqAll.erase : ∀ {ds : List D} {vs : List V} (n : Nat), DqAll K N Hs vs ds → DqAll K N Hs (vs.eraseIdx n) (ds.eraseIdx n)
  | [], _, _, h => by cases h; exact .nil
  | _ :: _, _, 0, h => by cases h with | cons h1 h2 => exact h2
  | _ :: _, _, n + 1, h => by cases h with | cons h1 h2 => exact .cons h1 (DqAll.erase n h2)
theorem DqAll.rev : ∀ {ds : List D} {vs : List V}, DqAll K N Hs vs ds → DqAll K N Hs vs.reverse ds.reverse
  | [], _, h => by cases h; exact .nil
  | _ :: _, _, h => by
    cases h with
    | cons h1 h2 => rw [List.reverse_cons, List.reverse_cons]; exact DqAll.app (DqAll.rev h2) (.cons h1 .nil)
theorem DqAll.rep {ds : List D} {vs : List V} (h : DqAll K N Hs vs ds) : ∀ n, DqAll K N Hs (List.replicate n vs).flatten (List.replicate n ds).flatten
  | 0 => .nil
  | n + 1 => by
    rw [List.replicate_succ, List.replicate_succ, List.flatten_cons, List.flatten_cons]
    exact DqAll.app h (DqAll.rep h n)
theorem DqAll.cut {ds : List D} {vs : List V} (h : DqAll K N Hs vs ds) (lo hi : Option Int) : DqAll K N Hs (cutV vs lo hi) (cutG ds lo hi) := by
  unfold cutV cutG
  rw [h.length]
  exact DqAll.take _ (DqAll.drop _ h)
theorem DqAll.ints : ∀ {is : List Int} {vs : List V}, DqAll K N Hs vs (is.map D.int) → vs = is.map V.int
  | [], _, h => by cases h; rfl
  | _ :: _, _, h => by
    cases h with
    | cons h1 h2 => cases h1; rw [DqAll.ints h2]; rfl
theorem DqAll.of_ints : ∀ (is : List Int), DqAll K N Hs (is.map V.int) (is.map D.int)
  | [] => .nil
  | i :: is => .cons (.int i) (DqAll.of_ints is)
mutual
theorem Dq.dp : ∀ {d : D} {v : V}, Dq K N Hs v d → d.dep < 1000 → Dp K Hs v d.py
  | .non, _, h, _ => by cases h; exact .non
  | .bl _, _, h, _ => by cases h; exact .bl _
  | .int _, _, h, _ => by cases h; exact .int _
  | .str _, _, h, _ => by cases h; exact .str _
  | .lst _ ds, _, h, e => by
    cases h with
    | lst h1 h2 => exact .lst h1.sql (DqAll.dp h2 (by simp only [D.dep] at e; omega))
  | .tup ds, _, h, e => by
    cases h with
    | tup h1 h2 => exact .tup h1 (DqAll.dp h2 (by simp only [D.dep] at e; omega))
  | .dct, _, h, e => by simp [D.dep] at e
  | .rng _ _, _, h, e => by simp [D.dep] at e
theorem DqAll.dp : ∀ {ds : List D} {vs : List V}, DqAll K N Hs vs ds → D.deps ds < 1000 → DpAll K Hs vs (D.pys ds)
  | [], _, h, _ => by cases h; exact .nil
  | _ :: _, _, h, e => by
    cases h with
    | cons h1 h2 =>
      simp only [D.deps] at e
      exact .cons (Dq.dp h1 (by omega)) (DqAll.dp h2 (by omega))
end
end

/-! ### regions, environments -/
/-- a region: the heap and the shared part at its base, the addresses owned there, the slots' values and data there, the slots never assigned -/
structure Rg where
  B : Hp
  Bs : Hp
  A : Addr → Prop
  σb : L2.St
  β : Envr
  nas : List Nat
/-- made since the base, or handed in for changing -/
def Rg.N (R : Rg) (a : Addr) : Prop := R.A a ∨ R.B a = none
/-- an address owned by a slot -/
def Own (σ : L2.St) (δ : Envr) (a : Addr) : Prop := ∃ (i : Nat) (ds : List D), δ[i]? = some (.ow ds) ∧ σ[i]? = some (some (.ref a))
structure Wd (K : Fg) (R : Rg) (σ : L2.St) (δ : Envr) (Hs H : Hp) : Prop where
  bs : Sub R.Bs Hs
  sub : Sub Hs H
  fr : ∀ b o, R.B b = some o → ¬ R.A b → Kp o H b
  tb : Tb K H
  ns : ∀ b ps, Hs b ≠ some (.tbl ps)
  dom : ∀ b, R.B b ≠ none → H b ≠ none
  nf : ∀ b, Hs b ≠ none → R.Bs b ≠ none ∨ R.N b
  len : σ.length = δ.length
  sh : ∀ (i : Nat) (d : D), δ[i]? = some (.sh d) → ∃ v, σ[i]? = some (some v) ∧ Dq K R.N Hs v d
  ow : ∀ (i : Nat) (ds : List D), δ[i]? = some (.ow ds) → ∃ a vs, σ[i]? = some (some (.ref a)) ∧ Hs a = none ∧ H a = some (.lst vs) ∧ DqAll K R.N Hs vs ds
  owA : ∀ a, Own σ δ a → R.N a
  dj : ∀ (i j : Nat) (ds es : List D) (a : Addr), δ[i]? = some (.ow ds) → δ[j]? = some (.ow es) → σ[i]? = some (some (.ref a)) → σ[j]? = some (some (.ref a)) → i = j
  kp : ∀ i : Nat, i ∈ R.nas → σ[i]? = R.σb[i]?
/-- a step of an expression -/
structure Go (σ : L2.St) (δ : Envr) (Hs H : Hp) (δ' : Envr) (Hs' H' : Hp) : Prop where
  hs : Sub Hs Hs'
  fr : ∀ b o, H b = some o → ¬ Own σ δ b → Kp o H' b
  nf : ∀ a, Hs a = none → Hs' a ≠ none → H a = none ∨ Own σ δ a
  ow : ∀ a, Own σ δ' a → Own σ δ a
theorem Go.refl {σ : L2.St} {δ : Envr} {Hs H : Hp} : Go σ δ Hs H δ Hs H := ⟨.refl _, fun _ _ h _ => .inl h, fun _ h n => absurd h n, fun _ h => h⟩
theorem Go.trans {σ : L2.St} {δ δ1 δ2 : Envr} {Hs H Hs1 H1 Hs2 H2 : Hp} (a : Go σ δ Hs H δ1 Hs1 H1) (b : Go σ δ1 Hs1 H1 δ2 Hs2 H2) : Go σ δ Hs H δ2 Hs2 H2 := by
  refine ⟨a.hs.trans b.hs, fun c o h n => (a.fr c o h n).trans fun o1 z => b.fr c o1 z fun m => n (a.ow c m), fun c h n => ?_, fun c h => a.ow c (b.ow c h)⟩
  by_cases h1 : Hs1 c = none
  · rcases b.nf c h1 n with h2 | h2
    · by_cases h3 : Own σ δ c
      · exact .inr h3
      · refine .inl ?_
        cases e : H c with
        | none => rfl
        | some o => exact absurd h2 (a.fr c o e h3).ne
    · exact .inr (a.ow c h2)
  · exact a.nf c h h1
/-- heap and shared part grow by new objects -/
structure Ext (Hs H Hs' H' : Hp) : Prop where
  hs : Sub Hs Hs'
  hh : Sub H H'
  sub : Sub Hs' H'
  nf : ∀ a, Hs a = none → Hs' a ≠ none → H a = none
  nt : ∀ b ps, H' b = some (.tbl ps) → H b = some (.tbl ps)
  ns : ∀ b ps, Hs' b = some (.tbl ps) → Hs b = some (.tbl ps)
theorem Ext.refl {Hs H : Hp} (s : Sub Hs H) : Ext Hs H Hs H := ⟨.refl _, .refl _, s, fun _ h n => absurd h n, fun _ _ e => e, fun _ _ e => e⟩
theorem Ext.trans {Hs H Hs1 H1 Hs2 H2 : Hp} (a : Ext Hs H Hs1 H1) (b : Ext Hs1 H1 Hs2 H2) : Ext Hs H Hs2 H2 := by
  refine ⟨a.hs.trans b.hs, a.hh.trans b.hh, b.sub, fun c h n => ?_, fun c ps e => a.nt c ps (b.nt c ps e), fun c ps e => a.ns c ps (b.ns c ps e)⟩
  by_cases h1 : Hs1 c = none
  · exact a.hh.back (b.nf c h1 n)
  · exact a.nf c h h1
section
variable {K : Fg} {R : Rg} {σ : L2.St} {δ : Envr} {Hs H Hs' H' : Hp}
theorem Wd.ext (w : Wd K R σ δ Hs H) (e : Ext Hs H Hs' H') : Wd K R σ δ Hs' H' where
  bs := w.bs.trans e.hs
  sub := e.sub
  fr := fun b o h n => (w.fr b o h n).hh e.hh
  tb := w.tb.kp e.hh e.nt
  ns := fun b ps q => w.ns b ps (e.ns b ps q)
  dom := fun b h n => w.dom b h (e.hh.back n)
  nf := fun b h => by
    by_cases h1 : Hs b = none
    · exact .inr (.inr (Classical.byContradiction fun n => w.dom b n (e.nf b h1 h)))
    · exact w.nf b h1
  len := w.len
  sh := fun i d h => let ⟨v, h1, h2⟩ := w.sh i d h; ⟨v, h1, h2.mono e.hs⟩
  ow := fun i ds h => by
    obtain ⟨a, vs, h1, h2, h3, h4⟩ := w.ow i ds h
    refine ⟨a, vs, h1, Classical.byContradiction fun n => ?_, e.hh _ _ h3, h4.mono e.hs⟩
    rw [e.nf a h2 n] at h3; cases h3
  owA := w.owA
  dj := w.dj
  kp := w.kp
theorem Ext.go (e : Ext Hs H Hs' H') : Go σ δ Hs H δ Hs' H' := ⟨e.hs, fun b o h _ => .inl (e.hh b o h), fun a h n => .inl (e.nf a h n), fun _ h => h⟩
/-- a new object that is shared -/
theorem Ext.newS {p : Addr} {o : HO} (s : Sub Hs H) (h : H p = none) (ho : ∀ ps, o ≠ .tbl ps := by intro _ z; cases z) : Ext Hs H (upd Hs p o) (upd H p o) :=
  ⟨.new (s.back h), .new h, s.upd, fun a h1 h2 => by
    by_cases e : a = p
    · subst e; exact h
    · rw [upd_ne e] at h2; exact absurd h1 h2, fun b ps e => by
    by_cases q : b = p
    · subst q; rw [upd_same] at e; exact absurd (Option.some.inj e) (ho ps)
    · rw [upd_ne q] at e; exact e, fun b ps e => by
    by_cases q : b = p
    · subst q; rw [upd_same] at e; exact absurd (Option.some.inj e) (ho ps)
    · rw [upd_ne q] at e; exact e⟩
/-- a new object that is not shared -/
theorem Ext.newO {p : Addr} {o : HO} (s : Sub Hs H) (h : H p = none) (ho : ∀ ps, o ≠ .tbl ps := by intro _ z; cases z) : Ext Hs H Hs (upd H p o) :=
  ⟨.refl _, .new h, s.updR (s.back h), fun a h1 h2 => absurd h1 h2, fun b ps e => by
    by_cases q : b = p
    · subst q; rw [upd_same] at e; exact absurd (Option.some.inj e) (ho ps)
    · rw [upd_ne q] at e; exact e, fun _ _ e => e⟩
theorem Wd.own_none (w : Wd K R σ δ Hs H) {a : Addr} (h : Own σ δ a) : Hs a = none := by
  obtain ⟨i, ds, h1, h2⟩ := h
  obtain ⟨b, vs, h3, h4, _⟩ := w.ow i ds h1
  rw [h2] at h3; cases h3; exact h4
/-- an object apart from all slots becomes shared -/
theorem Wd.share (w : Wd K R σ δ Hs H) {a : Addr} {xs : List V} (h : H a = some (.lst xs)) (hs : Hs a = none) (hn : ¬ Own σ δ a) (hb : R.N a) : Wd K R σ δ (upd Hs a (.lst xs)) H where
  bs := w.bs.trans (.new hs)
  sub := fun b o e => by
    by_cases q : b = a
    · subst q; rw [upd_same] at e; cases e; exact h
    · rw [upd_ne q] at e; exact w.sub b o e
  fr := w.fr
  tb := w.tb
  ns := fun b ps e => by
    by_cases q : b = a
    · subst q; rw [upd_same] at e; cases e
    · rw [upd_ne q] at e; exact w.ns b ps e
  dom := w.dom
  nf := fun b e => by
    by_cases q : b = a
    · subst q; exact .inr hb
    · rw [upd_ne q] at e; exact w.nf b e
  len := w.len
  sh := fun i d e => let ⟨v, h1, h2⟩ := w.sh i d e; ⟨v, h1, h2.mono (.new hs)⟩
  ow := fun i ds e => by
    obtain ⟨b, vs, h1, h2, h3, h4⟩ := w.ow i ds e
    have q : b ≠ a := fun z => hn ⟨i, ds, e, z ▸ h1⟩
    exact ⟨b, vs, h1, by rw [upd_ne q]; exact h2, h3, h4.mono (.new hs)⟩
  owA := w.owA
  dj := w.dj
  kp := w.kp
theorem get_set_ne {α : Type} {l : List α} {i j : Nat} {x : α} (h : i ≠ j) : (l.set i x)[j]? = l[j]? := List.getElem?_set_ne h
theorem get_set {α : Type} {l : List α} {i j : Nat} {x y : α} (h : (l.set i x)[j]? = some y) : (i = j ∧ y = x) ∨ (i ≠ j ∧ l[j]? = some y) := by
  by_cases e : i = j
  · subst e
    by_cases hl : i < l.length
    · rw [List.getElem?_set_self hl] at h; exact .inl ⟨rfl, (Option.some.inj h).symm⟩
    · rw [List.getElem?_eq_none (by simpa using hl)] at h; cases h
  · rw [get_set_ne e] at h; exact .inr ⟨e, h⟩
theorem Own.set_sub {i : Nat} {s : SV} (hs : ∀ ds, s ≠ .ow ds) {a : Addr} (h : Own σ (δ.set i s) a) : Own σ δ a := by
  obtain ⟨j, ds, h1, h2⟩ := h
  rcases get_set h1 with ⟨_, e⟩ | ⟨_, e⟩
  · exact absurd e.symm (hs ds)
  · exact ⟨j, ds, e, h2⟩
/-- a slot is emptied -/
theorem Wd.drop (w : Wd K R σ δ Hs H) (i : Nat) : Wd K R σ (δ.set i .un) Hs H where
  bs := w.bs
  sub := w.sub
  fr := w.fr
  tb := w.tb
  ns := w.ns
  dom := w.dom
  nf := w.nf
  len := by rw [List.length_set]; exact w.len
  sh := fun j d e => by
    rcases get_set e with ⟨_, z⟩ | ⟨_, z⟩
    · cases z
    · exact w.sh j d z
  ow := fun j d e => by
    rcases get_set e with ⟨_, z⟩ | ⟨_, z⟩
    · cases z
    · exact w.ow j d z
  owA := fun a h => w.owA a (Own.set_sub (fun _ z => by cases z) h)
  dj := fun j k ds es a h1 h2 => by
    rcases get_set h1 with ⟨_, z⟩ | ⟨_, z1⟩
    · cases z
    rcases get_set h2 with ⟨_, z⟩ | ⟨_, z2⟩
    · cases z
    exact w.dj j k ds es a z1 z2
  kp := w.kp
/-- a slot's value is shared from now on -/
theorem Wd.setSh (w : Wd K R σ δ Hs H) {i : Nat} {d : D} {v : V} (hv : σ[i]? = some (some v)) (hd : Dq K R.N Hs v d) : Wd K R σ (δ.set i (.sh d)) Hs H where
  bs := w.bs
  sub := w.sub
  fr := w.fr
  tb := w.tb
  ns := w.ns
  dom := w.dom
  nf := w.nf
  len := by rw [List.length_set]; exact w.len
  sh := fun j d' e => by
    rcases get_set e with ⟨q, z⟩ | ⟨_, z⟩
    · cases z; subst q; exact ⟨v, hv, hd⟩
    · exact w.sh j d' z
  ow := fun j d e => by
    rcases get_set e with ⟨_, z⟩ | ⟨_, z⟩
    · cases z
    · exact w.ow j d z
  owA := fun a h => w.owA a (Own.set_sub (fun _ z => by cases z) h)
  dj := fun j k ds es a h1 h2 => by
    rcases get_set h1 with ⟨_, z⟩ | ⟨_, z1⟩
    · cases z
    rcases get_set h2 with ⟨_, z⟩ | ⟨_, z2⟩
    · cases z
    exact w.dj j k ds es a z1 z2
  kp := w.kp
theorem Wd.lt (w : Wd K R σ δ Hs H) {i : Nat} {s : SV} (h : δ[i]? = some s) : i < σ.length := by
  rw [w.len]
  exact (List.getElem?_eq_some_iff.mp h).1
/-- an owned list of a slot becomes shared -/
theorem Wd.freeze (w : Wd K R σ δ Hs H) {i : Nat} {ds : List D} (h : δ[i]? = some (.ow ds)) : ∃ (a : Addr) (vs : List V), σ[i]? = some (some (.ref a)) ∧ Hs a = none ∧ H a = some (.lst vs) ∧ Dq K R.N (upd Hs a (.lst vs)) (.ref a) (.lst .nu ds) ∧
    Wd K R σ (δ.set i (.sh (.lst .nu ds))) (upd Hs a (.lst vs)) H ∧ Go σ δ Hs H (δ.set i (.sh (.lst .nu ds))) (upd Hs a (.lst vs)) H := by
  obtain ⟨a, vs, h1, h2, h3, h4⟩ := w.ow i ds h
  have own : Own σ δ a := ⟨i, ds, h, h1⟩
  have hd : Dq K R.N (upd Hs a (.lst vs)) (.ref a) (.lst .nu ds) := .lst ⟨w.owA a own, upd_same⟩ (h4.mono (.new h2))
  have no : ¬ Own σ (δ.set i .un) a := fun ⟨j, es, e1, e2⟩ => by
    rcases get_set e1 with ⟨_, z⟩ | ⟨q, z⟩
    · cases z
    · exact q (w.dj i j ds es a h z h1 e2)
  have w1 := (w.drop i).share h3 h2 no (w.owA a own)
  have w2 := w1.setSh (i := i) h1 hd
  rw [List.set_set] at w2
  refine ⟨a, vs, h1, h2, h3, hd, w2, ⟨.new h2, fun b o e _ => .inl e, fun b e1 e2 => ?_, fun b q => Own.set_sub (fun _ z => by cases z) q⟩⟩
  by_cases q : b = a
  · subst q; exact .inr own
  · rw [upd_ne q] at e2; exact absurd e1 e2
end
end Rf
set_option linter.all false
set_option maxRecDepth 100000
set_option maxHeartbeats 1000000
set_option Elab.async false
/-! Rf soundness, part 2: results, readings, operators. -/
namespace Rf
open PySem PySem.Spec PyProof.Rows L2
def RsOk (K : Fg) (R : Rg) (Hs H : Hp) (σ : L2.St) (δ : Envr) (v : V) : Rs → Prop
  | .fz d => Dq K R.N Hs v d
  | .nw ds => ∃ (a : Addr) (vs : List V), v = .ref a ∧ Hs a = none ∧ H a = some (.lst vs) ∧ DqAll K R.N Hs vs ds ∧ ¬ Own σ δ a ∧ R.N a
  | .sl i => σ[i]? = some (some v)
structure Post (K : Fg) (R : Rg) (σ : L2.St) (δ : Envr) (Hs H : Hp) (δ' : Envr) (Hs' H' : Hp) (v : V) (r : Rs) : Prop where
  wd : Wd K R σ δ' Hs' H'
  go : Go σ δ Hs H δ' Hs' H'
  rs : RsOk K R Hs' H' σ δ' v r
  nw : ∀ ds a, r = .nw ds → v = .ref a → H a = none ∨ Own σ δ a
/-- what is wanted of an exception: its class, its own dict with the value -/
def Xc (K : Fg) (R : Rg) (C : Nat → Addr) (W : WX) (σ : L2.St) (c : Nat) (d : D) (δ' : Envr) : Prop :=
  ∀ (Hs' H' : Hp) (a : Addr) (v : V), Wd K R σ δ' Hs' H' → H' a = some (.xd [(("value" : Str), v)]) → Dq K R.N Hs' v d → W (.ref (C c)) (some a) σ H'
def Ok {α : Type} (m : Res α) (good : α → Envr → Prop) (exc : Nat → D → Envr → Prop) : Prop := match m with
  | .ok a δ => good a δ
  | .exn c d δ => exc c d δ
  | .bad _ => False
theorem Ok.bindI {α β : Type} {m : M α} {f : α → M β} {δ : Envr} {g : β → Envr → Prop} {e : Nat → D → Envr → Prop} (h : Ok ((m >>= f) δ) g e) : Ok (m δ) (fun a δ1 => Ok (f a δ1) g e) e := by
  have h : Ok (M.bind m f δ) g e := h
  unfold M.bind at h
  unfold Ok
  cases q : m δ with
  | ok a δ1 => rw [q] at h; exact h
  | exn c d δ1 => rw [q] at h; exact h
  | bad n => rw [q] at h; exact h
theorem Ok.imp {α : Type} {m : Res α} {g g' : α → Envr → Prop} {e e' : Nat → D → Envr → Prop} (h : Ok m g e) (hg : ∀ a δ, g a δ → g' a δ) (he : ∀ c d δ, e c d δ → e' c d δ) : Ok m g' e' := by
  unfold Ok at h ⊢
  cases m with
  | ok a δ => exact hg _ _ h
  | exn c d δ => exact he _ _ _ h
  | bad n => exact h
section
variable (K : Fg) (R : Rg) (C : Nat → Addr) (W : WX)
def tE (f : M Rs) : TE := fun σ H Q => ∃ (Hs : Hp) (δ : Envr), Wd K R σ δ Hs H ∧ Ok (f δ) (fun r δ' => ∀ v Hs' H', Post K R σ δ Hs H δ' Hs' H' v r → Q v H') (Xc K R C W σ)
def tT (f : M Bool) : TT := fun σ H Q => ∃ (Hs : Hp) (δ : Envr), Wd K R σ δ Hs H ∧ Ok (f δ) (fun b δ' => ∀ Hs' H', Wd K R σ δ' Hs' H' → Go σ δ Hs H δ' Hs' H' → Q b H') (Xc K R C W σ)
end
theorem _root_.L2.PE.mono {X : Cx} {e : Expr} {t t' : TE} (h : PE X e t) (hm : ∀ σ H Q, t' σ H Q → t σ H Q) : PE X e t' := ⟨fun pins s σ H Q I q => h.run pins s σ H Q I (hm _ _ _ q)⟩
theorem _root_.L2.PT.mono {X : Cx} {e : Expr} {t t' : TT} (h : PT X e t) (hm : ∀ σ H Q, t' σ H Q → t σ H Q) : PT X e t' := ⟨fun pins s σ H Q I q => h.run pins s σ H Q I (hm _ _ _ q)⟩
theorem _root_.L2.PW.mono {X : Cx} {e : Expr} {t t' : TT} (h : PW X e t) (hm : ∀ σ H Q, t' σ H Q → t σ H Q) : PW X e t' := ⟨fun wh pins s σ H Q I q => h.run wh pins s σ H Q I (hm _ _ _ q)⟩
theorem _root_.L2.PA.mono {X : Cx} {es : List Expr} {t t' : TA} (h : PA X es t) (hm : ∀ σ H Q, t' σ H Q → t σ H Q) : PA X es t' := ⟨fun pos pins s σ H Q I q => h.run pos pins s σ H Q I (hm _ _ _ q)⟩
theorem _root_.L2.PS.mono {X : Cx} {st : Stmt} {t t' : TS} (h : PS X st t) (hm : ∀ D σ H, t' D σ H → t D σ H) : PS X st t' := ⟨fun pins s σ H D I q => h.run pins s σ H D I (hm _ _ _ q)⟩
theorem _root_.L2.PSs.mono {X : Cx} {st : List Stmt} {t t' : TS} (h : PSs X st t) (hm : ∀ D σ H, t' D σ H → t D σ H) : PSs X st t' := ⟨fun pins s σ H D I q => h.run pins s σ H D I (hm _ _ _ q)⟩
section
variable {K : Fg} {R : Rg} {C : Nat → Addr} {W : WX} {σ : L2.St} {δ δ1 δ2 : Envr} {Hs H Hs1 H1 Hs2 H2 : Hp}
theorem tE_bind {α : Type} {f : M Rs} {k : Rs → M α} {g : α → Envr → Prop} {Q : VK} (wd : Wd K R σ δ Hs H) (h : Ok ((f >>= k) δ) g (Xc K R C W σ))
    (hk : ∀ r δ1 v Hs1 H1, Post K R σ δ Hs H δ1 Hs1 H1 v r → Ok (k r δ1) g (Xc K R C W σ) → Q v H1) : tE K R C W f σ H Q :=
  ⟨Hs, δ, wd, h.bindI.imp (fun r δ1 hr v Hs1 H1 p => hk r δ1 v Hs1 H1 p hr) fun _ _ _ x => x⟩
theorem tT_bind {α : Type} {f : M Bool} {k : Bool → M α} {g : α → Envr → Prop} {Q : Bool → Hp → Prop} (wd : Wd K R σ δ Hs H) (h : Ok ((f >>= k) δ) g (Xc K R C W σ))
    (hk : ∀ b δ1 Hs1 H1, Wd K R σ δ1 Hs1 H1 → Go σ δ Hs H δ1 Hs1 H1 → Ok (k b δ1) g (Xc K R C W σ) → Q b H1) : tT K R C W f σ H Q :=
  ⟨Hs, δ, wd, h.bindI.imp (fun r δ1 hr Hs1 H1 w g => hk r δ1 Hs1 H1 w g hr) fun _ _ _ x => x⟩
theorem Post.trans {v v' : V} {r r' : Rs} (g : Go σ δ Hs H δ1 Hs1 H1) (p : Post K R σ δ1 Hs1 H1 δ2 Hs2 H2 v r) : Post K R σ δ Hs H δ2 Hs2 H2 v r := by
  refine ⟨p.wd, g.trans p.go, p.rs, fun ds a e1 e2 => ?_⟩
  rcases p.nw ds a e1 e2 with h | h
  · by_cases h3 : Own σ δ a
    · exact .inr h3
    · refine .inl ?_
      cases q : H a with
      | none => rfl
      | some o => exact absurd h (g.fr a o q h3).ne
  · exact .inr (g.ow a h)
/-- an operand that is held: its value lies shared, or it is a slot's -/
def Opd (K : Fg) (R : Rg) (Hs : Hp) (σ : L2.St) (v : V) : Rs → Prop
  | .fz d => Dq K R.N Hs v d
  | .nw ds => Dq K R.N Hs v (.lst .nu ds)
  | .sl i => σ[i]? = some (some v)
theorem Opd.mono {v : V} {r : Rs} (s : Sub Hs Hs1) (h : Opd K R Hs σ v r) : Opd K R Hs1 σ v r := by
  cases r with
  | fz d => exact Dq.mono s h
  | nw ds => exact Dq.mono s h
  | sl i => exact h
theorem Post.opd {v : V} {r : Rs} (p : Post K R σ δ Hs H δ1 Hs1 H1 v r) : ∃ Hs2, Wd K R σ δ1 Hs2 H1 ∧ Go σ δ Hs H δ1 Hs2 H1 ∧ Opd K R Hs2 σ v r ∧ Sub Hs1 Hs2 := by
  cases r with
  | fz d => exact ⟨Hs1, p.wd, p.go, p.rs, .refl _⟩
  | sl i => exact ⟨Hs1, p.wd, p.go, p.rs, .refl _⟩
  | nw ds =>
    obtain ⟨a, vs, rfl, h1, h2, h3, h4, h5⟩ := p.rs
    refine ⟨upd Hs1 a (.lst vs), p.wd.share h2 h1 h4 h5, ?_, .lst ⟨h5, upd_same⟩ (h3.mono (.new h1)), .new h1⟩
    refine ⟨p.go.hs.trans (.new h1), p.go.fr, fun b e1 e2 => ?_, p.go.ow⟩
    by_cases q : b = a
    · subst q; exact p.nw ds b rfl rfl
    · rw [upd_ne q] at e2; exact p.go.nf b e1 e2
/-- data whose uppermost list lies in H, all within it shared -/
def TopL (K : Fg) (N : Addr → Prop) (H : Hp) (a : Addr) (xs : List V) : Lb → Prop
  | .nu => N a ∧ H a = some (.lst xs)
  | .ol => H a = some (.lst xs)
  | .ro => SqL K H a xs
def DqT (K : Fg) (N : Addr → Prop) (Hs H : Hp) (v : V) : D → Prop
  | .lst f ds => ∃ (a : Addr) (xs : List V), v = .ref a ∧ TopL K N H a xs f ∧ DqAll K N Hs xs ds
  | d => Dq K N Hs v d
theorem TopL.sql {N : Addr → Prop} {a : Addr} {xs : List V} {f : Lb} (h : TopL K N H a xs f) : SqL K H a xs := by
  cases f with
  | nu => exact .of h.2
  | ol => exact .of h
  | ro => exact h
theorem TopL.trk {N : Addr → Prop} {a : Addr} {xs : List V} {f : Lb} (h : TopL K N H a xs f) (t : tracked f = true) : H a = some (.lst xs) := by
  cases f with
  | nu => exact h.2
  | ol => exact h
  | ro => cases t
theorem Dq.top {N : Addr → Prop} {v : V} {d : D} (s : Sub Hs H) (h : Dq K N Hs v d) : DqT K N Hs H v d := by
  cases h with
  | lst h1 h2 =>
    rename_i f _
    refine ⟨_, _, rfl, ?_, h2⟩
    cases f with
    | nu => exact ⟨h1.1, s _ _ h1.2⟩
    | ol => exact s _ _ h1
    | ro => exact s.sql h1
  | non => exact .non
  | bl b => exact .bl b
  | int i => exact .int i
  | str x => exact .str x
  | tup h1 h2 => exact .tup h1 h2
  | dct h => exact .dct h
  | rng h => exact .rng h
theorem DqT.full {N : Addr → Prop} {v : V} {d : D} (s : Sub Hs H) (h : DqT K N Hs H v d) : Dq K N H v d := by
  cases d with
  | lst f ds =>
    obtain ⟨a, xs, rfl, h1, h2⟩ := h
    refine .lst ?_ (h2.mono s)
    cases f with
    | nu => exact h1
    | ol => exact h1
    | ro => exact h1
  | non => exact Dq.mono s h
  | bl b => exact Dq.mono s h
  | int i => exact Dq.mono s h
  | str x => exact Dq.mono s h
  | tup ds => exact Dq.mono s h
  | dct => exact Dq.mono s h
  | rng a b => exact Dq.mono s h
theorem Opd.rd {v : V} {r : Rs} {d : D} (wd : Wd K R σ δ Hs H) (h : Opd K R Hs σ v r) (e : rd δ r = some d) : DqT K R.N Hs H v d := by
  cases r with
  | fz d' => cases e; exact Dq.top wd.sub h
  | nw ds => cases e; exact Dq.top wd.sub h
  | sl i =>
    have h : σ[i]? = some (some v) := h
    unfold Rf.rd at e
    cases q : δ[i]? with
    | none => simp only [q] at e; cases e
    | some s =>
      cases s with
      | un => simp only [q] at e; cases e
      | sh d' =>
        simp only [q] at e
        cases e
        obtain ⟨w, h1, h2⟩ := wd.sh i _ q
        rw [h] at h1; cases h1
        exact Dq.top wd.sub h2
      | ow ds =>
        simp only [q] at e
        cases e
        obtain ⟨a, vs, h1, h2, h3, h4⟩ := wd.ow i _ q
        rw [h] at h1; cases h1
        exact ⟨a, vs, rfl, ⟨wd.owA a ⟨i, ds, q, h⟩, h3⟩, h4⟩
theorem rdM_ok {α : Type} {r : Rs} {k : D → M α} {g : α → Envr → Prop} {e : Nat → D → Envr → Prop} (h : Ok ((rdM r >>= k) δ) g e) : ∃ d, rd δ r = some d ∧ Ok (k d δ) g e := by
  have h := h.bindI
  unfold rdM at h
  cases q : rd δ r with
  | none => rw [q] at h; exact h.elim
  | some d => rw [q] at h; exact ⟨d, rfl, h⟩
theorem truM_ok {α : Type} {r : Rs} {k : Bool → M α} {g : α → Envr → Prop} {e : Nat → D → Envr → Prop} (h : Ok ((truM r >>= k) δ) g e) : ∃ d b, rd δ r = some d ∧ d.truth = some b ∧ Ok (k b δ) g e := by
  have h := h.bindI
  unfold truM at h
  cases q : rd δ r with
  | none => rw [q] at h; exact h.elim
  | some d =>
    rw [q] at h
    cases q2 : d.truth with
    | none => simp only [q2] at h; exact h.elim
    | some b => simp only [q2] at h; exact ⟨d, b, rfl, q2, h⟩
theorem ofO_ok {α β : Type} {n : Nat} {o : Option β} {k : β → M α} {g : α → Envr → Prop} {e : Nat → D → Envr → Prop} (h : Ok ((ofO n o >>= k) δ) g e) : ∃ d, o = some d ∧ Ok (k d δ) g e := by
  have h := h.bindI
  unfold ofO at h
  cases o with
  | none => exact h.elim
  | some d => exact ⟨d, rfl, h⟩
/-- what an operation gives -/
def OROk (K : Fg) (N : Addr → Prop) (Hs' H' H : Hp) (v : V) : OR → Prop
  | .val d => Dq K N Hs' v d
  | .new ds => ∃ (a : Addr) (vs : List V), v = .ref a ∧ H a = none ∧ Hs' a = none ∧ H' a = some (.lst vs) ∧ DqAll K N Hs' vs ds
theorem Wd.newN (w : Wd K R σ δ Hs H) {a : Addr} (h : H a = none) : R.N a := .inr (Classical.byContradiction fun n => w.dom a n h)
theorem Wd.notOwn (w : Wd K R σ δ Hs H) {a : Addr} (h : H a = none) : ¬ Own σ δ a := fun ⟨i, ds, e1, e2⟩ => by
  obtain ⟨b, vs, h1, h2, h3, _⟩ := w.ow i ds e1
  rw [e2] at h1; cases h1; rw [h] at h3; cases h3
theorem Post.of_or {v : V} {o : OR} (g : Go σ δ Hs H δ1 Hs1 H1) (w : Wd K R σ δ1 Hs1 H1) (e : Ext Hs1 H1 Hs2 H2) (h : OROk K R.N Hs2 H2 H1 v o) : Post K R σ δ Hs H δ1 Hs2 H2 v o.rs := by
  have w2 := w.ext e
  cases o with
  | val d => exact ⟨w2, g.trans e.go, h, fun _ _ z => by cases z⟩
  | new ds =>
    obtain ⟨a, vs, rfl, h1, h2, h3, h4⟩ := h
    refine Post.trans (v' := .non) (r' := .fz .non) g ⟨w2, e.go, ⟨a, vs, rfl, h2, h3, h4, w.notOwn h1, w.newN h1⟩, fun _ _ _ z => ?_⟩
    cases z
    exact .inl h1
theorem Post.of_val {v : V} {d : D} (g : Go σ δ Hs H δ1 Hs1 H1) (w : Wd K R σ δ1 Hs1 H1) (h : Dq K R.N Hs1 v d) : Post K R σ δ Hs H δ1 Hs1 H1 v (.fz d) := ⟨w, g, h, fun _ _ z => by cases z⟩
end

/-! ### operators by data -/
section
variable (K : Fg) (N : Addr → Prop)
def rB2 (g : D → D → Option OR) : R2 := fun x y H Q => ∃ (Hs : Hp) (dx dy : D) (o : OR), Sub Hs H ∧ DqT K N Hs H x dx ∧ DqT K N Hs H y dy ∧ g dx dy = some o ∧ ∀ v Hs' H', Ext Hs H Hs' H' → OROk K N Hs' H' H v o → Q v H'
def rC2 (g : D → D → Option Bool) : R2 := fun x y H Q => ∃ (Hs : Hp) (dx dy : D) (b : Bool), Sub Hs H ∧ DqT K N Hs H x dx ∧ DqT K N Hs H y dy ∧ g dx dy = some b ∧ Q (.bl b) H
end
section
variable {X : Cx} {N : Addr → Prop}
theorem limS : lim ≤ sizeLine := by rw [sizeLine_eq]; decide
theorem limS' {n : Nat} (h : n ≤ lim) : n ≤ sizeLine := Nat.le_trans h limS
theorem limT {n : Nat} (h : n < lim) : n < sizeLine := Nat.lt_of_lt_of_le h limS
theorem rB2.val {K : Fg} {g : D → D → Option OR} {x y : V} {H : Hp} {Q : VK} {v : V} {Hs : Hp} {d : D} (s : Sub Hs H) (k : ∀ v Hs' H', Ext Hs H Hs' H' → OROk K N Hs' H' H v (.val d) → Q v H') (h : Dq K N Hs v d) : Q v H := k v Hs H (.refl s) h
theorem newL {K : Fg} {H : Hp} {Q : VK} {Hs : Hp} {ds : List D} {vs : List V} (s : Sub Hs H) (k : ∀ v Hs' H', Ext Hs H Hs' H' → OROk K N Hs' H' H v (.new ds) → Q v H') (h : DqAll K N Hs vs ds) : ∀ p, H p = none → Q (.ref p) (upd H p (.lst vs)) :=
  fun p hp => k _ Hs _ (.newO s hp) ⟨p, vs, rfl, hp, s.back hp, upd_same, h⟩
theorem newT {K : Fg} {H : Hp} {Q : VK} {Hs : Hp} {ds : List D} {vs : List V} (s : Sub Hs H) (k : ∀ v Hs' H', Ext Hs H Hs' H' → OROk K N Hs' H' H v (.val (.tup ds)) → Q v H') (h : DqAll K N Hs vs ds) : ∀ p, H p = none → Q (.ref p) (upd H p (.tup vs)) :=
  fun p hp => k _ (upd Hs p (.tup vs)) _ (.newS s hp) (show Dq K N _ _ _ from .tup (.of upd_same) (h.mono (.new (s.back hp))))
theorem opB_add : OpR X (binaryOp .Add) (rB2 X.K N bo_add) := by
  intro pins s σ H x y v u Q I rx ry h
  obtain ⟨Hs, dx, dy, o, sb, hx, hy, e, k⟩ := h
  unfold bo_add at e
  split at e <;> try (cases e; done)
  · cases hx; cases hy; cases e
    exact op_add pins s σ H _ _ v u Q I rx ry ⟨_, _, rfl, rfl, k _ _ _ (.refl sb) (.int _)⟩
  · cases hx; cases hy
    split at e
    · cases e
      rename_i hl
      exact op_add_str pins s σ H _ _ v u Q I rx ry ⟨_, _, rfl, rfl, limS' hl, k _ _ _ (.refl sb) (.str _)⟩
    · cases e
  · obtain ⟨a, xs, rfl, h1, h2⟩ := hx
    obtain ⟨b, ys, rfl, h3, h4⟩ := hy
    split at e
    · rename_i hl
      cases e
      simp only [Bool.and_eq_true, decide_eq_true_eq] at hl
      exact op_cat pins s σ H _ _ v u Q I rx ry ⟨a, b, xs, ys, rfl, rfl, h1.trk hl.1.1, h3.trk hl.1.2, by rw [h2.length, h4.length]; exact limS' hl.2, newL sb k (h2.app h4)⟩
    · cases e
  · cases hx with
    | tup h1 h2 =>
      cases hy with
      | tup h3 h4 =>
        split at e
        · rename_i hl
          cases e
          have n1 := h2.length
          have n2 := h4.length
          refine op_catT pins s σ H _ _ v u Q I rx ry ⟨_, _, _, _, rfl, rfl, sb.sqt h1, sb.sqt h3, fun z => ?_, by rw [h2.length, h4.length]; exact limS' hl.2.2, fun z => ?_, fun _ => newT sb k (h2.app h4)⟩
          · rw [z] at n1; exact hl.1 (List.length_eq_zero_iff.mp n1.symm)
          · rw [z] at n2; exact absurd (List.length_eq_zero_iff.mp n2.symm) hl.2.1
        · cases e
theorem opB_sub : OpR X (binaryOp .Sub) (rB2 X.K N bo_sub) := by
  intro pins s σ H x y v u Q I rx ry h
  obtain ⟨Hs, dx, dy, o, sb, hx, hy, e, k⟩ := h
  unfold bo_sub at e
  split at e <;> try (cases e; done)
  cases hx; cases hy; cases e
  exact op_sub pins s σ H _ _ v u Q I rx ry ⟨_, _, rfl, rfl, k _ _ _ (.refl sb) (.int _)⟩
theorem log2_big {n : Nat} (h : n < big) : n.log2 < 4096 := by
  by_cases h0 : n = 0
  · subst h0; decide
  · exact (Nat.log2_lt h0).mpr h
theorem opB_mul : OpR X (binaryOp .Mult) (rB2 X.K N bo_mul) := by
  intro pins s σ H x y v u Q I rx ry h
  obtain ⟨Hs, dx, dy, o, sb, hx, hy, e, k⟩ := h
  unfold bo_mul at e
  split at e <;> try (cases e; done)
  · cases hx; cases hy
    split at e
    · rename_i i j hm
      cases e
      unfold mulOk at hm
      simp only [Bool.or_eq_true, Bool.and_eq_true, decide_eq_true_eq] at hm
      rcases hm with (hm | hm) | hm
      · exact op_mul pins s σ H _ _ v u Q I rx ry ⟨_, _, rfl, rfl, .inl (by omega), k _ _ _ (.refl sb) (.int _)⟩
      · exact op_mul pins s σ H _ _ v u Q I rx ry ⟨_, _, rfl, rfl, .inr (by omega), k _ _ _ (.refl sb) (.int _)⟩
      · refine op_mulW pins s σ H _ _ v u Q I rx ry ⟨_, _, rfl, rfl, ?_, k _ _ _ (.refl sb) (.int _)⟩
        have h1 := log2_big hm.1
        have h2 := log2_big hm.2
        unfold CMulW
        omega
    · cases e
  · cases hy
    obtain ⟨a, xs, rfl, h1, h2⟩ := hx
    split at e
    · rename_i hl
      cases e
      simp only [Bool.and_eq_true, decide_eq_true_eq] at hl
      exact op_rep pins s σ H _ _ v u Q I rx ry ⟨a, _, xs, rfl, rfl, h1.trk hl.1.1.1, hl.1.2, hl.2, by rw [h2.length]; exact limS' hl.1.1.2, newL sb k (h2.rep _)⟩
    · cases e
theorem opB_mod : OpR X (binaryOp .Mod) (rB2 X.K N bo_mod) := by
  intro pins s σ H x y v u Q I rx ry h
  obtain ⟨Hs, dx, dy, o, sb, hx, hy, e, k⟩ := h
  unfold bo_mod at e
  split at e <;> try (cases e; done)
  cases hx; cases hy
  split at e
  · rename_i hl
    cases e
    exact op_mod pins s σ H _ _ v u Q I rx ry ⟨_, _, rfl, rfl, hl, k _ _ _ (.refl sb) (.int _)⟩
  · cases e
theorem opB_fdiv : OpR X (binaryOp .FloorDiv) (rB2 X.K N bo_fdiv) := by
  intro pins s σ H x y v u Q I rx ry h
  obtain ⟨Hs, dx, dy, o, sb, hx, hy, e, k⟩ := h
  unfold bo_fdiv at e
  split at e <;> try (cases e; done)
  cases hx; cases hy
  split at e
  · rename_i hl
    cases e
    refine op_fdivW pins s σ H _ _ v u Q I rx ry ⟨_, _, rfl, rfl, ⟨hl.1, Nat.lt_trans (log2_big hl.2) (by decide)⟩, k _ _ _ (.refl sb) (.int _)⟩
  · cases e
theorem opB_pow : OpR X (binaryOp .Pow) (rB2 X.K N bo_pow) := by
  intro pins s σ H x y v u Q I rx ry h
  obtain ⟨Hs, dx, dy, o, sb, hx, hy, e, k⟩ := h
  unfold bo_pow at e
  split at e <;> try (cases e; done)
  cases hx; cases hy
  split at e
  · rename_i i j hl
    cases e
    obtain ⟨t, rfl⟩ := rx
    obtain ⟨t', rfl⟩ := ry
    refine PyProof.Rows.pow_int hl.1 ?_ ⟨.int _, H, I.tok _, ⟨_, rfl⟩, k _ _ _ (.refl sb) (.int _)⟩
    have hb : Builtin.Int.intBits i ≤ 300 := by
      unfold Builtin.Int.intBits
      by_cases h0 : i = 0
      · subst h0; decide
      · have h1 : i.natAbs.log2 < 256 := (Nat.log2_lt (by omega)).mpr hl.2.1
        split <;> omega
    have h3 := hl.2.2
    have : (Builtin.Int.intBits i : Int) * j ≤ 300 * 1000 := by
      refine Int.le_trans (Int.mul_le_mul_of_nonneg_right (Int.ofNat_le.mpr hb) hl.1) ?_
      exact Int.mul_le_mul_of_nonneg_left h3 (by decide)
    omega
  · cases e
end
end Rf
set_option linter.all false
set_option maxRecDepth 100000
set_option maxHeartbeats 1000000
set_option Elab.async false
/-! Rf soundness, part 3: comparisons, items, slices, built-ins. -/
namespace Rf
open PySem PySem.Spec PyProof.Rows L2
mutual
theorem depth_py : ∀ d : D, d.dep < 1000 → d.py.depth = d.dep ∧ d.py.canLay0 = true
  | .non, _ => ⟨rfl, rfl⟩
  | .bl _, _ => ⟨rfl, rfl⟩
  | .int _, _ => ⟨rfl, rfl⟩
  | .str x, h => by
    unfold D.dep at h ⊢
    by_cases e : PyData.strOk x = true
    · rw [if_pos e]; exact ⟨rfl, e⟩
    · rw [if_neg e] at h; omega
  | .lst _ ds, h => by
    unfold D.dep at h ⊢
    obtain ⟨h1, h2⟩ := depths_py ds (by omega)
    exact ⟨by show PyData.depthAll (D.pys ds) + 1 = _; rw [h1], h2⟩
  | .tup ds, h => by
    unfold D.dep at h ⊢
    obtain ⟨h1, h2⟩ := depths_py ds (by omega)
    exact ⟨by show PyData.depthAll (D.pys ds) + 1 = _; rw [h1], h2⟩
  | .dct, h => by simp [D.dep] at h
  | .rng _ _, h => by simp [D.dep] at h
theorem depths_py : ∀ ds : List D, D.deps ds < 1000 → PyData.depthAll (D.pys ds) = D.deps ds ∧ PyData.canLayAll0 (D.pys ds) = true
  | [], _ => ⟨rfl, rfl⟩
  | d :: ds, h => by
    unfold D.deps at h ⊢
    obtain ⟨h1, h2⟩ := depth_py d (by omega)
    obtain ⟨h3, h4⟩ := depths_py ds (by omega)
    refine ⟨by show max (D.py d).depth (PyData.depthAll (D.pys ds)) = _; rw [h1, h3], ?_⟩
    show (PyData.canLay0 (D.py d) && PyData.canLayAll0 (D.pys ds)) = true
    rw [h2, h4]; rfl
end
theorem okE_dep {d : D} (h : d.okE = true) : d.dep ≤ 50 := of_decide_eq_true h
theorem okE_shaped {d : D} (h : d.okE = true) : SeqAt.shaped d.py = true := by
  have h := okE_dep h
  obtain ⟨h1, h2⟩ := depth_py d (by omega)
  unfold SeqAt.shaped
  rw [h1, h2]
  simp only [Bool.true_and, decide_eq_true_eq]; omega
theorem pys_map : ∀ ds : List D, D.pys ds = ds.map D.py
  | [] => rfl
  | _ :: ds => by unfold D.pys; rw [pys_map ds]; rfl
theorem any_pys (ds : List D) (a : D) : ((D.pys ds).any fun z => PyData.eqv z a.py) = ds.any fun z => z.eqv a := by
  rw [pys_map, List.any_map]; rfl
section
variable {X : Cx} {N : Addr → Prop}
theorem DqT.dp {K : Fg} {Hs H : Hp} {v : V} {d : D} (s : Sub Hs H) (h : DqT K N Hs H v d) (e : d.okE = true) : Dp K H v d.py := (h.full s).dp (by have := okE_dep e; omega)
theorem opC_eq (hu : X.A.units + 66 < cLine) : OpR X (compareOp .Eq) (rC2 X.K N co_eq) := by
  intro pins s σ H x y v u Q I rx ry h
  obtain ⟨Hs, dx, dy, o, sb, hx, hy, e, k⟩ := h
  have e : (if (dx.okE && dy.okE) = true then some (dx.eqv dy) else none) = some o := e
  split at e <;> try (cases e; done)
  rename_i hc
  cases e
  simp only [Bool.and_eq_true] at hc
  exact op_eqD (by omega) pins s σ H _ _ v u Q I rx ry ⟨_, _, hx.dp sb hc.1, hy.dp sb hc.2, okE_shaped hc.1, okE_shaped hc.2, k⟩
theorem opC_ne (hu : X.A.units + 66 < cLine) : OpR X (compareOp .NotEq) (rC2 X.K N co_ne) := by
  intro pins s σ H x y v u Q I rx ry h
  obtain ⟨Hs, dx, dy, o, sb, hx, hy, e, k⟩ := h
  have e : (if (dx.okE && dy.okE) = true then some (!dx.eqv dy) else none) = some o := e
  split at e <;> try (cases e; done)
  rename_i hc
  cases e
  simp only [Bool.and_eq_true] at hc
  exact op_neD (by omega) pins s σ H _ _ v u Q I rx ry ⟨_, _, hx.dp sb hc.1, hy.dp sb hc.2, okE_shaped hc.1, okE_shaped hc.2, k⟩
theorem opC_lt : OpR X (compareOp .Lt) (rC2 X.K N co_lt) := by
  intro pins s σ H x y v u Q I rx ry h
  obtain ⟨Hs, dx, dy, o, sb, hx, hy, e, k⟩ := h
  unfold co_lt at e
  split at e <;> try (cases e; done)
  cases hx; cases hy; cases e
  exact op_lt pins s σ H _ _ v u Q I rx ry ⟨_, _, rfl, rfl, k⟩
theorem opC_le : OpR X (compareOp .LtE) (rC2 X.K N co_le) := by
  intro pins s σ H x y v u Q I rx ry h
  obtain ⟨Hs, dx, dy, o, sb, hx, hy, e, k⟩ := h
  unfold co_le at e
  split at e <;> try (cases e; done)
  cases hx; cases hy; cases e
  exact op_le pins s σ H _ _ v u Q I rx ry ⟨_, _, rfl, rfl, k⟩
theorem opC_gt : OpR X (compareOp .Gt) (rC2 X.K N co_gt) := by
  intro pins s σ H x y v u Q I rx ry h
  obtain ⟨Hs, dx, dy, o, sb, hx, hy, e, k⟩ := h
  unfold co_gt at e
  split at e <;> try (cases e; done)
  cases hx; cases hy; cases e
  exact op_gt pins s σ H _ _ v u Q I rx ry ⟨_, _, rfl, rfl, k⟩
theorem opC_ge : OpR X (compareOp .GtE) (rC2 X.K N co_ge) := by
  intro pins s σ H x y v u Q I rx ry h
  obtain ⟨Hs, dx, dy, o, sb, hx, hy, e, k⟩ := h
  unfold co_ge at e
  split at e <;> try (cases e; done)
  cases hx; cases hy; cases e
  exact op_ge pins s σ H _ _ v u Q I rx ry ⟨_, _, rfl, rfl, k⟩
/-- is, against None or a bool -/
theorem is_val {K : Fg} {Hs H : Hp} {x : V} {v : Value} {d : D} {c : Value} {e : D} (r : RelV x v) (h : DqT K N Hs H x d) (hc : (c = .none ∧ e = .non) ∨ ∃ b, c = .bool b ∧ e = .bl b) : plainIs v c = true ∧ (v == c) = decide (d = e) := by
  have ne : ∀ {a b : Value}, a ≠ b → (a == b) = false := fun h => beq_eq_false_iff_ne.mpr h
  rcases hc with ⟨rfl, rfl⟩ | ⟨b, rfl, rfl⟩
  · cases d with
    | non => cases h; cases r; exact ⟨rfl, by simp⟩
    | bl b => cases h; cases r; exact ⟨rfl, by rw [ne (by simp)]; simp⟩
    | int i => cases h; obtain ⟨t, rfl⟩ := r; exact ⟨rfl, by rw [ne (by simp)]; simp⟩
    | str x => cases h; obtain ⟨t, rfl⟩ := r; exact ⟨rfl, by rw [ne (by simp)]; simp⟩
    | lst f ds => obtain ⟨a, xs, rfl, _⟩ := h; cases r; exact ⟨rfl, by rw [ne (by simp)]; simp⟩
    | tup ds => cases h; cases r; exact ⟨rfl, by rw [ne (by simp)]; simp⟩
    | dct => cases h; cases r; exact ⟨rfl, by rw [ne (by simp)]; simp⟩
    | rng a b => cases h; cases r; exact ⟨rfl, by rw [ne (by simp)]; simp⟩
  · cases d with
    | non => cases h; cases r; exact ⟨rfl, by rw [ne (by simp)]; simp⟩
    | bl b' =>
      cases h; cases r
      refine ⟨rfl, ?_⟩
      by_cases q : b' = b
      · subst q; simp
      · rw [ne (by simpa using q)]; simp [q]
    | int i => cases h; obtain ⟨t, rfl⟩ := r; exact ⟨rfl, by rw [ne (by simp)]; simp⟩
    | str x => cases h; obtain ⟨t, rfl⟩ := r; exact ⟨rfl, by rw [ne (by simp)]; simp⟩
    | lst f ds => obtain ⟨a, xs, rfl, _⟩ := h; cases r; exact ⟨rfl, by rw [ne (by simp)]; simp⟩
    | tup ds => cases h; cases r; exact ⟨rfl, by rw [ne (by simp)]; simp⟩
    | dct => cases h; cases r; exact ⟨rfl, by rw [ne (by simp)]; simp⟩
    | rng a b => cases h; cases r; exact ⟨rfl, by rw [ne (by simp)]; simp⟩
theorem opC_is : OpR X (compareOp .Is) (rC2 X.K N co_is_) := by
  intro pins s σ H x y v u Q I rx ry h
  obtain ⟨Hs, dx, dy, o, sb, hx, hy, e, k⟩ := h
  unfold co_is_ at e
  split at e <;> try (cases e; done)
  · cases hy; cases ry; cases e
    obtain ⟨p1, p2⟩ := is_val (c := .none) (e := .non) rx hx (.inl ⟨rfl, rfl⟩)
    exact wpAny_is_plain p1 (by rw [p2]; exact ⟨.bl _, H, I, rfl, k⟩)
  · cases hy; cases ry; cases e
    rename_i b
    obtain ⟨p1, p2⟩ := is_val (c := .bool b) (e := .bl b) rx hx (.inr ⟨b, rfl, rfl⟩)
    exact wpAny_is_plain p1 (by rw [p2]; exact ⟨.bl _, H, I, rfl, k⟩)
theorem opC_isnt : OpR X (compareOp .IsNot) (rC2 X.K N co_isnt) := by
  intro pins s σ H x y v u Q I rx ry h
  obtain ⟨Hs, dx, dy, o, sb, hx, hy, e, k⟩ := h
  unfold co_isnt at e
  split at e <;> try (cases e; done)
  · cases hy; cases ry; cases e
    obtain ⟨p1, p2⟩ := is_val (c := .none) (e := .non) rx hx (.inl ⟨rfl, rfl⟩)
    exact wpAny_isNot_plain p1 (by rw [p2]; exact ⟨.bl _, H, I, rfl, k⟩)
  · cases hy; cases ry; cases e
    rename_i b
    obtain ⟨p1, p2⟩ := is_val (c := .bool b) (e := .bl b) rx hx (.inr ⟨b, rfl, rfl⟩)
    exact wpAny_isNot_plain p1 (by rw [p2]; exact ⟨.bl _, H, I, rfl, k⟩)
theorem room_in {A : Around} {ds : List PyData} {d : PyData} (h : d.depth ≤ 64) (hu : A.units + 66 < cLine) : A.units + 1 + min (PyData.depthAll ds) d.depth < cLine := by
  have : min (PyData.depthAll ds) d.depth ≤ d.depth := Nat.min_le_right _ _
  omega
theorem opC_in (hu : X.A.units + 66 < cLine) : OpR X (compareOp .In) (rC2 X.K N co_in_) := by
  intro pins s σ H x y v u Q I rx ry h
  obtain ⟨Hs, dx, dy, o, sb, hx, hy, e, k⟩ := h
  unfold co_in_ at e
  split at e <;> try (cases e; done)
  · rename_i f xs
    split at e <;> try (cases e; done)
    rename_i hc
    cases e
    simp only [Bool.and_eq_true] at hc
    refine op_inD (by omega) pins s σ H _ _ v u Q I rx ry ⟨_, D.pys xs, hx.dp sb hc.1, hy.dp sb hc.2, okE_shaped hc.1, okE_shaped hc.2, by rw [any_pys]; exact k⟩
  · rename_i xs
    split at e <;> try (cases e; done)
    rename_i hc
    cases e
    simp only [Bool.and_eq_true] at hc
    obtain ⟨as, r1⟩ := Dp.reads I _ x v (hx.dp sb hc.1) rx
    obtain ⟨bs, r2⟩ := Dp.reads I _ y u (hy.dp sb hc.2) ry
    exact SeqAt.in_tuple_reads (xs := D.pys xs) r2 r1 (SeqAt.canLay_of_shaped (okE_shaped hc.2)) (SeqAt.canLay_of_shaped (okE_shaped hc.1)) (room_in (SeqAt.depth_of_shaped (okE_shaped hc.1)) hu) ⟨.bl _, H, I, rfl, by rw [any_pys]; exact k⟩
  · cases hx; cases hy; cases e
    exact op_in_str pins s σ H _ _ v u Q I rx ry ⟨_, _, rfl, rfl, k⟩
theorem opC_notin (hu : X.A.units + 66 < cLine) : OpR X (compareOp .NotIn) (rC2 X.K N co_notin) := by
  intro pins s σ H x y v u Q I rx ry h
  obtain ⟨Hs, dx, dy, o, sb, hx, hy, e, k⟩ := h
  unfold co_notin at e
  split at e <;> try (cases e; done)
  · rename_i f xs
    split at e <;> try (cases e; done)
    rename_i hc
    cases e
    simp only [Bool.and_eq_true] at hc
    refine op_notInD (by omega) pins s σ H _ _ v u Q I rx ry ⟨_, D.pys xs, hx.dp sb hc.1, hy.dp sb hc.2, okE_shaped hc.1, okE_shaped hc.2, by rw [any_pys]; exact k⟩
  · rename_i xs
    split at e <;> try (cases e; done)
    rename_i hc
    cases e
    simp only [Bool.and_eq_true] at hc
    obtain ⟨as, r1⟩ := Dp.reads I _ x v (hx.dp sb hc.1) rx
    obtain ⟨bs, r2⟩ := Dp.reads I _ y u (hy.dp sb hc.2) ry
    exact SeqAt.notIn_tuple_reads (xs := D.pys xs) r2 r1 (SeqAt.canLay_of_shaped (okE_shaped hc.2)) (SeqAt.canLay_of_shaped (okE_shaped hc.1)) (room_in (SeqAt.depth_of_shaped (okE_shaped hc.1)) hu) ⟨.bl _, H, I, rfl, by rw [any_pys]; exact k⟩
  · cases hx; cases hy; cases e
    exact op_notin_str pins s σ H _ _ v u Q I rx ry ⟨_, _, rfl, rfl, k⟩
def COp.py : COp → CmpOp
  | .eq => .Eq | .ne => .NotEq | .lt => .Lt | .le => .LtE | .gt => .Gt | .ge => .GtE | .is_ => .Is | .isnt => .IsNot | .in_ => .In | .notin => .NotIn
theorem opC_all (hu : X.A.units + 66 < cLine) (op : COp) : OpR X (compareOp op.py) (rC2 X.K N op.run) := by
  cases op
  · exact opC_eq hu
  · exact opC_ne hu
  · exact opC_lt
  · exact opC_le
  · exact opC_gt
  · exact opC_ge
  · exact opC_is
  · exact opC_isnt
  · exact opC_in hu
  · exact opC_notin hu
/-! ### items and slices -/
theorem DqAll.at {K : Fg} {Hs : Hp} {ds : List D} {vs : List V} {i : Int} {d : D} (h : DqAll K N Hs vs ds) (e : atI ds i = some d) : ∃ v, atI vs i = some v ∧ Dq K N Hs v d := by
  unfold atI at e ⊢
  rw [h.length]
  cases q : ixN ds.length i with
  | none => rw [q] at e; cases e
  | some j =>
    rw [q] at e
    exact h.get (show ds[j]? = some d from e)
def rIdx (K : Fg) (N : Addr → Prop) : R2 := fun x y H Q => ∃ (Hs : Hp) (dx dy d : D), Sub Hs H ∧ DqT K N Hs H x dx ∧ DqT K N Hs H y dy ∧ getIx dx dy = some d ∧ ∀ v, Dq K N Hs v d → Q v H
theorem ix_all : IxR X (rIdx X.K N) := by
  intro value slice pins s σ H x y v u Q I rx ry h hs
  obtain ⟨Hs, dx, dy, d, sb, hx, hy, e, k⟩ := h
  unfold getIx at e
  split at e <;> try (cases e; done)
  · cases hy
    obtain ⟨a, xs, rfl, h1, h2⟩ := hx
    obtain ⟨w, e1, e2⟩ := h2.at e
    exact ix_list value slice pins s σ H _ _ v u Q I rx ry ⟨a, xs, _, w, rfl, rfl, h1.sql, e1, k w e2⟩ hs
  · cases hy
    cases hx with
    | tup h1 h2 =>
      obtain ⟨w, e1, e2⟩ := h2.at e
      exact ix_tup value slice pins s σ H _ _ v u Q I rx ry ⟨_, _, _, w, rfl, rfl, sb.sqt h1, e1, k w e2⟩ hs
  · cases hy; cases hx
    split at e <;> try (cases e; done)
    rename_i hl
    obtain ⟨c, e1, e2⟩ := Option.map_eq_some_iff.mp e
    cases e2
    exact ix_str value slice pins s σ H _ _ v u Q I rx ry ⟨_, _, c, rfl, rfl, limS' hl, e1, k _ (.str _)⟩ hs
def rSlc (K : Fg) (N : Addr → Prop) : V → Option Int → Option Int → Hp → VK → Prop := fun x lo hi H Q => ∃ (Hs : Hp) (dx : D) (o : OR), Sub Hs H ∧ DqT K N Hs H x dx ∧ slice dx lo hi = some o ∧ ∀ v Hs' H', Ext Hs H Hs' H' → OROk K N Hs' H' H v o → Q v H'
theorem sl_all : SlR X (rSlc X.K N) := by
  intro pins s σ H x v vl vu lo hi sl Q I rx h1 h2 h3 h
  obtain ⟨Hs, dx, o, sb, hx, e, k⟩ := h
  unfold slice at e
  split at e <;> try (cases e; done)
  · cases e
    obtain ⟨a, xs, rfl, g1, g2⟩ := hx
    exact sl_list pins s σ H _ v vl vu lo hi sl Q I rx h1 h2 h3 ⟨a, xs, rfl, g1.sql, newL sb k (g2.cut lo hi)⟩
  · split at e <;> try (cases e; done)
    rename_i hn
    cases e
    cases hx with
    | tup g1 g2 =>
      refine sl_tup pins s σ H _ v vl vu lo hi sl Q I rx h1 h2 h3 ⟨_, _, rfl, sb.sqt g1, by rw [g2.length]; exact hn, newT sb k (g2.cut lo hi)⟩
  · cases hx
    split at e <;> try (cases e; done)
    rename_i hl
    cases e
    exact sl_str pins s σ H _ v vl vu lo hi sl Q I rx h1 h2 h3 ⟨_, rfl, limS' hl, k _ _ _ (.refl sb) (.str _)⟩
end
end Rf
set_option linter.all false
set_option maxRecDepth 100000
set_option maxHeartbeats 1000000
set_option Elab.async false
/-! Rf soundness, part 4: expressions, construct by construct. -/
namespace Rf
open PySem PySem.Spec PyProof.Rows L2
section
variable {X : Cx} {R : Rg} {C : Nat → Addr} {W : WX} {cf : CF}
theorem Ok.pureI {α : Type} {a : α} {δ : Envr} {g : α → Envr → Prop} {e : Nat → D → Envr → Prop} (h : Ok ((pure a : M α) δ) g e) : g a δ := h
theorem truV_of {K : Fg} {N : Addr → Prop} {Hs H : Hp} {v : V} {d : D} {b : Bool} (s : Sub Hs H) (h : DqT K N Hs H v d) (e : d.truth = some b) : TruV K v H b := by
  cases d with
  | non => cases h; cases e; rfl
  | bl b => cases h; cases e; rfl
  | int i => cases h; cases e; rfl
  | str x =>
    cases h
    have e : (if x.length ≤ lim then some ((x.length : Int) != 0) else none) = some b := e
    split at e
    · rename_i hl; cases e; exact ⟨limS' hl, rfl⟩
    · cases e
  | lst f ds =>
    obtain ⟨a, xs, rfl, h1, h2⟩ := h
    cases e
    refine .inl ⟨xs, h1.sql, ?_⟩
    have := h2.length
    cases xs <;> cases ds <;> simp_all
  | tup ds =>
    cases e
    cases h with
    | tup h1 h2 =>
      refine .inr (.inl ⟨_, s.sqt h1, ?_⟩)
      have := h2.length
      rename_i xs
      cases xs <;> cases ds <;> simp_all
  | dct => cases e; cases h with | dct h => exact .inr (.inr ⟨[], s _ _ h, rfl⟩)
  | rng a b => cases e
/-- a test out of a value -/
theorem pt_of {e : Expr} {f : M Rs} (h : PE X e (tE X.K R C W f)) (he : ∀ whole, isTrue e X.env whole = (do let v ← whole; standAt e.pos; holding [v] (truthy v))) : PT X e (tT X.K R C W (f >>= truM)) := by
  refine (pt_truth h he).mono fun σ H Q ⟨Hs, δ, wd, h⟩ => ?_
  refine tE_bind wd h fun r δ1 v Hs1 H1 p k => ?_
  obtain ⟨Hs2, w2, g2, o2, _⟩ := p.opd
  unfold truM at k
  cases q : rd δ1 r with
  | none => rw [q] at k; exact k.elim
  | some d =>
    rw [q] at k
    cases q2 : d.truth with
    | none => simp only [q2] at k; exact k.elim
    | some b =>
      simp only [q2] at k
      exact ⟨b, truV_of w2.sub (o2.rd w2 q) q2, k Hs2 H1 w2 g2⟩
theorem s_var {x : Str} {pos : Pos} {i : Nat} (hN : X.N[i]? = some x) (hv : Vis X.env.scope x) (hd : (x == ("__debug__" : Str)) = false) (hcd : (x == ("__classdict__" : Str)) = false) : PE X (.Name x pos) (tE X.K R C W (ev cf (.var i))) := by
  refine (pe_var hN hv hd hcd).mono fun σ H Q ⟨Hs, δ, wd, h⟩ => ?_
  rw [ev] at h
  cases q : δ[i]? with
  | none => simp only [q] at h; exact h.elim
  | some s =>
    cases s with
    | un => simp only [q] at h; exact h.elim
    | sh d =>
      simp only [q] at h
      obtain ⟨v, h1, h2⟩ := wd.sh i d q
      exact ⟨v, h1, h v Hs H (.of_val .refl wd h2)⟩
    | ow ds =>
      simp only [q] at h
      obtain ⟨a, vs, h1, h2⟩ := wd.ow i ds q
      exact ⟨.ref a, h1, h _ Hs H ⟨wd, .refl, h1, fun _ _ z => by cases z⟩⟩
theorem s_con {e : Expr} {f : M Rs} {v : V} {d : D} (hf : f = pure (.fz d)) (h : PE X e (tC v)) (hd : ∀ Hs, Dq X.K R.N Hs v d) : PE X e (tE X.K R C W f) := by
  subst hf
  exact h.mono fun σ H Q ⟨Hs, δ, wd, h⟩ => h v Hs H (.of_val .refl wd (hd Hs))
/-- two operands, read together -/
theorem two {α : Type} {fa fb : M Rs} {k : D → D → M α} {g : α → Envr → Prop} {σ : L2.St} {δ : Envr} {Hs H : Hp} {Q : V → V → Hp → Prop} (wd : Wd X.K R σ δ Hs H)
    (h : Ok ((do let ra ← fa; let rb ← fb; let da ← rdM ra; let db ← rdM rb; k da db : M α) δ) g (Xc X.K R C W σ))
    (hk : ∀ x y da db δ2 Hs2 H2, Wd X.K R σ δ2 Hs2 H2 → Go σ δ Hs H δ2 Hs2 H2 → DqT X.K R.N Hs2 H2 x da → DqT X.K R.N Hs2 H2 y db → Ok (k da db δ2) g (Xc X.K R C W σ) → Q x y H2) :
    tE X.K R C W fa σ H fun x H1 => tE X.K R C W fb σ H1 fun y H2 => Q x y H2 := by
  refine tE_bind wd h fun ra δ1 x Hs1 H1 p1 k1 => ?_
  obtain ⟨Hs2, w2, g2, o2, _⟩ := p1.opd
  refine tE_bind w2 k1 fun rb δ2 y Hs3 H3 p3 k3 => ?_
  obtain ⟨Hs4, w4, g4, o4, _⟩ := p3.opd
  obtain ⟨da, e1, k4⟩ := rdM_ok k3
  obtain ⟨db, e2, k5⟩ := rdM_ok k4
  exact hk x y da db δ2 Hs4 H3 w4 (g2.trans g4) ((o2.mono g4.hs).rd w4 e1) (o4.rd w4 e2) k5
theorem retO_ok {n : Nat} {o : Option OR} {δ : Envr} {g : Rs → Envr → Prop} {e : Nat → D → Envr → Prop} (h : Ok (retO n o δ) g e) : ∃ r, o = some r ∧ g r.rs δ := by
  unfold retO at h
  cases o with
  | none => exact h.elim
  | some r => exact ⟨r, rfl, h⟩
def BOp.py : BOp → Operator
  | .add => .Add | .sub => .Sub | .mul => .Mult | .fdiv => .FloorDiv | .mod => .Mod | .pow => .Pow
theorem op_all (op : BOp) {N : Addr → Prop} : OpR X (binaryOp op.py) (rB2 X.K N op.run) := by
  cases op
  · exact opB_add
  · exact opB_sub
  · exact opB_mul
  · exact opB_fdiv
  · exact opB_mod
  · exact opB_pow
theorem s_bin {op : BOp} {a b : Expr} {ea eb : Ex} {pos : Pos} (ha : PE X a (tE X.K R C W (ev cf ea))) (hb : PE X b (tE X.K R C W (ev cf eb))) : PE X (.BinOp a op.py b pos) (tE X.K R C W (ev cf (.bin op ea eb))) := by
  refine (pe_op (op_all op (N := R.N)) ha hb).mono fun σ H Q ⟨Hs, δ, wd, h⟩ => ?_
  rw [ev] at h
  refine two wd h fun x y da db δ2 Hs2 H2 w2 g2 h1 h2 k => ?_
  obtain ⟨r, e, k⟩ := retO_ok k
  exact ⟨Hs2, da, db, r, w2.sub, h1, h2, e, fun v Hs' H' ex ok => k v Hs' H' (.of_or g2 w2 ex ok)⟩
theorem s_neg {a : Expr} {ea : Ex} {pos : Pos} (ha : PE X a (tE X.K R C W (ev cf ea))) : PE X (.UnaryOp .USub a pos) (tE X.K R C W (ev cf (.neg ea))) := by
  refine (pe_un un_neg ha).mono fun σ H Q ⟨Hs, δ, wd, h⟩ => ?_
  rw [ev] at h
  refine tE_bind wd h fun ra δ1 x Hs1 H1 p1 k1 => ?_
  obtain ⟨Hs2, w2, g2, o2, _⟩ := p1.opd
  obtain ⟨da, e1, k2⟩ := rdM_ok k1
  have hx := o2.rd w2 e1
  cases da with
  | int i =>
    cases hx
    exact ⟨i, rfl, k2 _ Hs2 H1 (.of_val g2 w2 (.int _))⟩
  | _ => exact k2.elim
theorem s_not {a : Expr} {ea : Ex} {pos : Pos} (ha : PE X a (tE X.K R C W (ev cf ea))) : PE X (.UnaryOp .Not a pos) (tE X.K R C W (ev cf (.not ea))) := by
  refine (pe_notT ha).mono fun σ H Q ⟨Hs, δ, wd, h⟩ => ?_
  rw [ev] at h
  refine tE_bind wd h fun ra δ1 x Hs1 H1 p1 k1 => ?_
  obtain ⟨Hs2, w2, g2, o2, _⟩ := p1.opd
  obtain ⟨da, b, e1, e2, k2⟩ := truM_ok k1
  exact ⟨b, truV_of w2.sub (o2.rd w2 e1) e2, k2 _ Hs2 H1 (.of_val g2 w2 (.bl _))⟩
/-- a bool just made, as a test -/
theorem truM_bl {b : Bool} {δ : Envr} {g : Bool → Envr → Prop} {e : Nat → D → Envr → Prop} (h : Ok (truM (.fz (.bl b)) δ) g e) : g b δ := h
theorem bindA {α β γ : Type} {m : M α} {f : α → M β} {k : β → M γ} : ((m >>= f) >>= k) = (m >>= fun a => f a >>= k) := by
  funext δ
  show M.bind (M.bind m f) k δ = M.bind m (fun a => M.bind (f a) k) δ
  unfold M.bind
  cases m δ <;> rfl
theorem bindP {α β : Type} {a : α} {k : α → M β} : ((pure a : M α) >>= k) = k a := rfl
theorem eq_not {ea : Ex} : (ev cf (.not ea) >>= truM) = ((ev cf ea >>= truM) >>= fun b => (pure (!b) : M Bool)) := by
  rw [ev, bindA, bindA]
  refine congrArg _ (funext fun ra => ?_)
  rw [bindA]; rfl
theorem tT_pure {b : Bool} {σ : L2.St} {δ δ1 : Envr} {Hs H Hs1 H1 : Hp} {Q : Bool → Hp → Prop} (w : Wd X.K R σ δ1 Hs1 H1) (g : Go σ δ Hs H δ1 Hs1 H1)
    (h : Ok ((pure b : M Bool) δ1) (fun b δ' => ∀ Hs' H', Wd X.K R σ δ' Hs' H' → Go σ δ Hs H δ' Hs' H' → Q b H') (Xc X.K R C W σ)) : Q b H1 := h Hs1 H1 w g
theorem t_not {a : Expr} {ea : Ex} {pos : Pos} (ha : PT X a (tT X.K R C W (ev cf ea >>= truM))) : PT X (.UnaryOp .Not a pos) (tT X.K R C W (ev cf (.not ea) >>= truM)) := by
  refine (pt_not ha).mono fun σ H Q ⟨Hs, δ, wd, h⟩ => ?_
  rw [eq_not] at h
  exact tT_bind wd h fun b δ1 Hs1 H1 w1 g1 k => tT_pure w1 g1 k
/-! comparisons -/
theorem notSet_mark {op : CmpOp} {b : Expr} (h : ∀ es k p, b ≠ .Set es k p) : behindInMarks op b = false := by
  cases b <;> first | rfl | exact absurd rfl (h _ _ _)
theorem s_cmp {op : COp} {a b : Expr} {ea eb : Ex} {pos : Pos} (hu : X.A.units + 66 < cLine) (hb' : ∀ es k p, b ≠ .Set es k p) (ha : PE X a (tE X.K R C W (ev cf ea))) (hb : PE X b (tE X.K R C W (ev cf eb))) :
    PE X (.Compare a [op.py] [b] pos) (tE X.K R C W (ev cf (.cmp op ea eb))) := by
  refine (pe_cmpR (opC_all hu op (N := R.N)) ha hb (notSet_mark hb')).mono fun σ H Q ⟨Hs, δ, wd, h⟩ => ?_
  rw [ev] at h
  refine two wd h fun x y da db δ2 Hs2 H2 w2 g2 h1 h2 k => ?_
  obtain ⟨b, e, k⟩ := ofO_ok k
  exact ⟨Hs2, da, db, b, w2.sub, h1, h2, e, k _ Hs2 H2 (.of_val g2 w2 (.bl _))⟩
theorem eq_cmp {op : COp} {ea eb : Ex} : (ev cf (.cmp op ea eb) >>= truM) = (do let ra ← ev cf ea; let rb ← ev cf eb; let da ← rdM ra; let db ← rdM rb; ofO 13 (op.run da db) : M Bool) := by
  rw [ev, bindA]
  refine congrArg _ (funext fun ra => ?_)
  rw [bindA]
  refine congrArg _ (funext fun rb => ?_)
  rw [bindA]
  refine congrArg _ (funext fun da => ?_)
  rw [bindA]
  refine congrArg _ (funext fun db => ?_)
  rw [bindA]
  cases op.run da db <;> rfl
theorem ofO_ok' {β : Type} {n : Nat} {o : Option β} {δ : Envr} {g : β → Envr → Prop} {e : Nat → D → Envr → Prop} (h : Ok ((ofO n o : M β) δ) g e) : ∃ d, o = some d ∧ g d δ := by
  unfold ofO at h
  cases o with
  | none => exact h.elim
  | some d => exact ⟨d, rfl, h⟩
theorem t_cmp {op : COp} {a b : Expr} {ea eb : Ex} {pos : Pos} (hu : X.A.units + 66 < cLine) (hb' : ∀ es k p, b ≠ .Set es k p) (ha : PE X a (tE X.K R C W (ev cf ea))) (hb : PE X b (tE X.K R C W (ev cf eb))) :
    PT X (.Compare a [op.py] [b] pos) (tT X.K R C W (ev cf (.cmp op ea eb) >>= truM)) := by
  refine (pt_cmpR (opC_all hu op (N := R.N)) ha hb (notSet_mark hb')).mono fun σ H Q ⟨Hs, δ, wd, h⟩ => ?_
  rw [eq_cmp] at h
  refine two wd h fun x y da db δ2 Hs2 H2 w2 g2 h1 h2 k => ?_
  obtain ⟨b, e, k⟩ := ofO_ok' k
  exact ⟨Hs2, da, db, b, w2.sub, h1, h2, e, b, rfl, k Hs2 H2 w2 g2⟩
/-- a op b op' c: the middle one is held -/
theorem chain_go {α : Type} {o1 o2 : COp} {fa fb fc : M Rs} {k1 : Bool → M α} {g : α → Envr → Prop} {σ : L2.St} {δ : Envr} {Hs H : Hp} {Q : Bool → Hp → Prop} (wd : Wd X.K R σ δ Hs H)
    (h : Ok ((do
      let ra ← fa
      let rb ← fb
      let da ← rdM ra
      let db ← rdM rb
      let r ← ofO 13 (o1.run da db)
      if r then do
        let rc ← fc
        let db2 ← rdM rb
        let dc ← rdM rc
        let r2 ← ofO 13 (o2.run db2 dc)
        k1 r2
      else k1 false : M α) δ) g (Xc X.K R C W σ))
    (hk : ∀ b δ2 Hs2 H2, Wd X.K R σ δ2 Hs2 H2 → Go σ δ Hs H δ2 Hs2 H2 → Ok (k1 b δ2) g (Xc X.K R C W σ) → Q b H2) :
    tE X.K R C W fa σ H fun x H1 => tE X.K R C W fb σ H1 fun y H2 => rC2 X.K R.N o1.run x y H2 fun z H3 => ∃ k, z = .bl k ∧ if k = true then tE X.K R C W fc σ H3 (fun z H4 => rC2 X.K R.N o2.run y z H4 fun u H5 => ∃ b, u = .bl b ∧ Q b H5) else Q false H3 := by
  refine tE_bind wd h fun ra δ1 x Hs1 H1 p1 k1 => ?_
  obtain ⟨Hs2, w2, g2, o2', _⟩ := p1.opd
  refine tE_bind w2 k1 fun rb δ2 y Hs3 H3 p3 k3 => ?_
  obtain ⟨Hs4, w4, g4, o4, _⟩ := p3.opd
  obtain ⟨da, e1, k4⟩ := rdM_ok k3
  obtain ⟨db, e2, k5⟩ := rdM_ok k4
  obtain ⟨r, e3, k6⟩ := ofO_ok k5
  refine ⟨Hs4, da, db, r, w4.sub, (o2'.mono g4.hs).rd w4 e1, o4.rd w4 e2, e3, r, rfl, ?_⟩
  cases r with
  | false => exact hk false δ2 Hs4 H3 w4 (g2.trans g4) k6
  | true =>
    refine tE_bind w4 k6 fun rc δ5 z Hs5 H5 p5 k7 => ?_
    obtain ⟨Hs6, w6, g6, o6, _⟩ := p5.opd
    obtain ⟨db2, e4, k8⟩ := rdM_ok k7
    obtain ⟨dc, e5, k9⟩ := rdM_ok k8
    obtain ⟨r2, e6, k10⟩ := ofO_ok k9
    exact ⟨Hs6, db2, dc, r2, w6.sub, (o4.mono g6.hs).rd w6 e4, o6.rd w6 e5, e6, r2, rfl, hk r2 δ5 Hs6 H5 w6 ((g2.trans g4).trans g6) k10⟩
theorem tE_mono {f : M Rs} {σ : L2.St} {H : Hp} {Q Q' : VK} (h : tE X.K R C W f σ H Q) (k : ∀ v H, Q v H → Q' v H) : tE X.K R C W f σ H Q' := by
  obtain ⟨Hs, δ, wd, h⟩ := h
  exact ⟨Hs, δ, wd, h.imp (fun r δ' hr v Hs' H' p => k _ _ (hr v Hs' H' p)) fun _ _ _ x => x⟩
theorem notSet_marks {o1 o2 : CmpOp} {b c : Expr} (h : ∀ es k p, c ≠ .Set es k p) : lastMarks [o1, o2] [b, c] = false := notSet_mark h
theorem s_chain {o1 o2 : COp} {a b c : Expr} {ea eb ec : Ex} {pos : Pos} (hu : X.A.units + 66 < cLine) (hc' : ∀ es k p, c ≠ .Set es k p) (ha : PE X a (tE X.K R C W (ev cf ea))) (hb : PE X b (tE X.K R C W (ev cf eb))) (hc : PE X c (tE X.K R C W (ev cf ec))) :
    PE X (.Compare a [o1.py, o2.py] [b, c] pos) (tE X.K R C W (ev cf (.chain o1 o2 ea eb ec))) := by
  refine (pe_chain (opC_all hu o1 (N := R.N)) (opC_all hu o2 (N := R.N)) ha hb hc (notSet_marks hc')).mono fun σ H Q ⟨Hs, δ, wd, h⟩ => ?_
  rw [ev] at h
  have z := chain_go (k1 := fun b => (pure (.fz (.bl b)) : M Rs)) (Q := fun b H => Q (.bl b) H) (o1 := o1) (o2 := o2) (fc := ev cf ec) wd h fun b δ2 Hs2 H2 w2 g2 k => k _ Hs2 H2 (.of_val g2 w2 (.bl _))
  refine tE_mono z fun x H1 z1 => tE_mono z1 fun y H2 ⟨Hs', d1, d2, b, q1, q2, q3, q4, k, q5, z3⟩ => ?_
  refine ⟨Hs', d1, d2, b, q1, q2, q3, q4, k, q5, ?_⟩
  cases k with
  | false => exact z3
  | true =>
    refine tE_mono z3 fun z H4 ⟨Hs5, d5, d6, b2, q6, q7, q8, q9, b3, e3, q10⟩ => ⟨Hs5, d5, d6, b2, q6, q7, q8, q9, ?_⟩
    cases e3
    exact q10
theorem eq_chain {o1 o2 : COp} {ea eb ec : Ex} : (ev cf (.chain o1 o2 ea eb ec) >>= truM) = (do
      let ra ← ev cf ea
      let rb ← ev cf eb
      let da ← rdM ra
      let db ← rdM rb
      let r ← ofO 13 (o1.run da db)
      if r then do
        let rc ← ev cf ec
        let db2 ← rdM rb
        let dc ← rdM rc
        let r2 ← ofO 13 (o2.run db2 dc)
        (fun b => (pure b : M Bool)) r2
      else (fun b => (pure b : M Bool)) false : M Bool) := by
  rw [ev, bindA]
  refine congrArg _ (funext fun ra => ?_)
  rw [bindA]
  refine congrArg _ (funext fun rb => ?_)
  rw [bindA]
  refine congrArg _ (funext fun da => ?_)
  rw [bindA]
  refine congrArg _ (funext fun db => ?_)
  rw [bindA]
  refine congrArg _ (funext fun r => ?_)
  cases r with
  | false => rfl
  | true =>
    show ((ev cf ec >>= fun rc => _) >>= truM) = (ev cf ec >>= fun rc => _)
    rw [bindA]
    refine congrArg _ (funext fun rc => ?_)
    rw [bindA]
    refine congrArg _ (funext fun d2 => ?_)
    rw [bindA]
    refine congrArg _ (funext fun d3 => ?_)
    rw [bindA]
    cases o2.run d2 d3 <;> rfl
theorem t_chain {o1 o2 : COp} {a b c : Expr} {ea eb ec : Ex} {pos : Pos} (hu : X.A.units + 66 < cLine) (hc' : ∀ es k p, c ≠ .Set es k p) (ha : PE X a (tE X.K R C W (ev cf ea))) (hb : PE X b (tE X.K R C W (ev cf eb))) (hc : PE X c (tE X.K R C W (ev cf ec))) :
    PT X (.Compare a [o1.py, o2.py] [b, c] pos) (tT X.K R C W (ev cf (.chain o1 o2 ea eb ec) >>= truM)) := by
  refine (pt_chain (opC_all hu o1 (N := R.N)) (opC_all hu o2 (N := R.N)) ha hb hc (notSet_marks hc')).mono fun σ H Q ⟨Hs, δ, wd, h⟩ => ?_
  rw [eq_chain] at h
  have z := chain_go (k1 := fun b => (pure b : M Bool)) (Q := Q) (o1 := o1) (o2 := o2) (fc := ev cf ec) wd h fun b δ2 Hs2 H2 w2 g2 k => k Hs2 H2 w2 g2
  refine tE_mono z fun x H1 z1 => tE_mono z1 fun y H2 ⟨Hs', d1, d2, b, q1, q2, q3, q4, k, q5, z3⟩ => ?_
  refine ⟨Hs', d1, d2, b, q1, q2, q3, q4, k, q5, ?_⟩
  cases k with
  | false => exact ⟨false, rfl, z3⟩
  | true => exact z3
/-! a if c else b -/
theorem tE_from {f : M Rs} {σ : L2.St} {δ δ1 : Envr} {Hs H Hs1 H1 : Hp} {Q : VK} (w : Wd X.K R σ δ1 Hs1 H1) (g : Go σ δ Hs H δ1 Hs1 H1)
    (h : Ok (f δ1) (fun r δ' => ∀ v Hs' H', Post X.K R σ δ Hs H δ' Hs' H' v r → Q v H') (Xc X.K R C W σ)) : tE X.K R C W f σ H1 Q :=
  ⟨Hs1, δ1, w, h.imp (fun r δ' hr v Hs' H' p => hr v Hs' H' (p.trans (v' := v) (r' := r) g)) fun _ _ _ x => x⟩
theorem tT_from {f : M Bool} {σ : L2.St} {δ δ1 : Envr} {Hs H Hs1 H1 : Hp} {Q : Bool → Hp → Prop} (w : Wd X.K R σ δ1 Hs1 H1) (g : Go σ δ Hs H δ1 Hs1 H1)
    (h : Ok (f δ1) (fun b δ' => ∀ Hs' H', Wd X.K R σ δ' Hs' H' → Go σ δ Hs H δ' Hs' H' → Q b H') (Xc X.K R C W σ)) : tT X.K R C W f σ H1 Q :=
  ⟨Hs1, δ1, w, h.imp (fun r δ' hr Hs' H' w' g' => hr Hs' H' w' (g.trans g')) fun _ _ _ x => x⟩
theorem bind3 {α : Type} {f : M Rs} {k : Bool → M α} : (do let r ← f; let t ← truM r; k t : M α) = ((f >>= truM) >>= k) := bindA.symm
theorem s_ite {c a b : Expr} {ec ea eb : Ex} {pos : Pos} (hc : PT X c (tT X.K R C W (ev cf ec >>= truM))) (ha : PE X a (tE X.K R C W (ev cf ea))) (hb : PE X b (tE X.K R C W (ev cf eb))) : PE X (.IfExp c a b pos) (tE X.K R C W (ev cf (.ite ec ea eb))) := by
  refine (pe_ifExp hc ha hb).mono fun σ H Q ⟨Hs, δ, wd, h⟩ => ?_
  rw [ev, bind3] at h
  refine tT_bind wd h fun t δ1 Hs1 H1 w1 g1 k => ?_
  cases t with
  | true => exact tE_from w1 g1 k
  | false => exact tE_from w1 g1 k
theorem eq_ite {ec ea eb : Ex} : (ev cf (.ite ec ea eb) >>= truM) = ((ev cf ec >>= truM) >>= fun t => if t then ev cf ea >>= truM else ev cf eb >>= truM) := by
  rw [ev, bind3, bindA]
  refine congrArg _ (funext fun t => ?_)
  cases t <;> rfl
theorem pt_ifExp {c a b : Expr} {pos : Pos} {tc ta tb : TT} (hc : PT X c tc) (ha : PT X a ta) (hb : PT X b tb) : PT X (.IfExp c a b pos) (fun σ H Q => tc σ H fun k H1 => if k = true then ta σ H1 Q else tb σ H1 Q) := by
  refine ⟨fun pins s σ H Q I h => ?_⟩
  show wpAny _ _ (do if ← isTrue c X.env (eval c X.env) then isTrue a X.env (eval a X.env) else isTrue b X.env (eval b X.env)) _ _ _
  refine wpAny_bind (thn (hc.run pins s σ H _ I h) fun d s1 ⟨H1, I1, q1⟩ => ?_)
  cases d with
  | true => exact ha.run pins s1 σ H1 Q I1 q1
  | false => exact hb.run pins s1 σ H1 Q I1 q1
theorem t_ite {c a b : Expr} {ec ea eb : Ex} {pos : Pos} (hc : PT X c (tT X.K R C W (ev cf ec >>= truM))) (ha : PT X a (tT X.K R C W (ev cf ea >>= truM))) (hb : PT X b (tT X.K R C W (ev cf eb >>= truM))) : PT X (.IfExp c a b pos) (tT X.K R C W (ev cf (.ite ec ea eb) >>= truM)) := by
  refine (pt_ifExp hc ha hb).mono fun σ H Q ⟨Hs, δ, wd, h⟩ => ?_
  rw [eq_ite] at h
  refine tT_bind wd h fun t δ1 Hs1 H1 w1 g1 k => ?_
  cases t with
  | true => exact tT_from w1 g1 k
  | false => exact tT_from w1 g1 k
/-! and, or -/
def bopy : Bool → BoolOp
  | true => .And
  | false => .Or
theorem s_bop1 {k : Bool} {a : Expr} {ea : Ex} {pos : Pos} (ha : PE X a (tE X.K R C W (ev cf ea))) : PE X (.BoolOp (bopy k) [a] pos) (tE X.K R C W (evB cf k (.cons ea .nil))) := by
  refine (pe_one ha).mono fun σ H Q h => ?_
  rw [evB] at h; exact h
theorem esc_ok {α : Type} {r : Rs} {k : D → M α} {σ : L2.St} {v : V} {δ : Envr} {Hs H : Hp} {g : α → Envr → Prop} {e : Nat → D → Envr → Prop} (wd : Wd X.K R σ δ Hs H) (o : Opd X.K R Hs σ v r) (h : Ok ((esc r >>= k) δ) g e) :
    ∃ d δ' Hs', Wd X.K R σ δ' Hs' H ∧ Go σ δ Hs H δ' Hs' H ∧ Dq X.K R.N Hs' v d ∧ Ok (k d δ') g e := by
  have h := h.bindI
  cases r with
  | fz d => exact ⟨d, δ, Hs, wd, .refl, o, h⟩
  | nw ds => exact ⟨_, δ, Hs, wd, .refl, o, h⟩
  | sl i =>
    have o : σ[i]? = some (some v) := o
    unfold esc at h
    cases q : δ[i]? with
    | none => simp only [q] at h; exact h.elim
    | some s =>
      cases s with
      | un => simp only [q] at h; exact h.elim
      | sh d =>
        simp only [q] at h
        obtain ⟨w, h1, h2⟩ := wd.sh i d q
        rw [o] at h1; cases h1
        exact ⟨d, δ, Hs, wd, .refl, h2, h⟩
      | ow ds =>
        simp only [q] at h
        obtain ⟨a, vs, h1, h2, h3, h4, w', g'⟩ := wd.freeze q
        rw [o] at h1; cases h1
        exact ⟨_, _, _, w', g', h4, h⟩
theorem s_bop {k : Bool} {a b : Expr} {rest : List Expr} {ea eb : Ex} {es : Exs} {pos : Pos} (ha : PE X a (tE X.K R C W (ev cf ea))) (hb : PE X (.BoolOp (bopy k) (b :: rest) pos) (tE X.K R C W (evB cf k (.cons eb es)))) :
    PE X (.BoolOp (bopy k) (a :: b :: rest) pos) (tE X.K R C W (evB cf k (.cons ea (.cons eb es)))) := by
  have key : ∀ (σ : L2.St) (H : Hp) (Q : VK), tE X.K R C W (evB cf k (.cons ea (.cons eb es))) σ H Q → tE X.K R C W (ev cf ea) σ H fun x H1 => ∃ t, TruV X.K x H1 t ∧ if t = k then tE X.K R C W (evB cf k (.cons eb es)) σ H1 Q else Q x H1 := by
    intro σ H Q ⟨Hs, δ, wd, h⟩
    rw [evB] at h
    refine tE_bind wd h fun r δ1 v Hs1 H1 p1 k1 => ?_
    obtain ⟨Hs2, w2, g2, o2, _⟩ := p1.opd
    obtain ⟨d, t, e1, e2, k2⟩ := truM_ok k1
    refine ⟨t, truV_of w2.sub (o2.rd w2 e1) e2, ?_⟩
    by_cases c : t = k
    · rw [if_pos c]
      rw [if_pos (by simpa using c)] at k2
      exact tE_from w2 g2 k2
    · rw [if_neg c]
      rw [if_neg (by simpa using c)] at k2
      obtain ⟨d', δ', Hs', w', g', hd, k3⟩ := esc_ok w2 o2 k2
      exact k3 v Hs' H1 (.of_val (g2.trans g') w' hd)
    · intro z; cases z
  cases k with
  | true =>
    refine (pe_andT ha hb).mono fun σ H Q h => tE_mono (key σ H Q h) fun x H1 ⟨t, e, q⟩ => ⟨t, e, ?_⟩
    cases t <;> exact q
  | false =>
    refine (pe_orT ha hb).mono fun σ H Q h => tE_mono (key σ H Q h) fun x H1 ⟨t, e, q⟩ => ⟨t, e, ?_⟩
    cases t <;> exact q
end
end Rf
set_option linter.all false
set_option maxRecDepth 100000
set_option maxHeartbeats 1000000
set_option Elab.async false
/-! Rf soundness, part 5: displays, arguments, items, slices, built-ins. -/
namespace Rf
open PySem PySem.Spec PyProof.Rows L2
theorem Ok.withEq {α : Type} {m : Res α} {g : α → Envr → Prop} {e : Nat → D → Envr → Prop} (h : Ok m g e) : Ok m (fun a δ => g a δ ∧ m = .ok a δ) e := by
  cases m with
  | ok a δ => exact ⟨h, rfl⟩
  | exn c d δ => exact h
  | bad n => exact h
def Exs.len : Exs → Nat
  | .nil => 0
  | .cons _ es => es.len + 1
/-- data whose uppermost lists lie in H -/
inductive DqTs (K : Fg) (N : Addr → Prop) (Hs H : Hp) : List V → List D → Prop
  | nil : DqTs K N Hs H [] []
  | cons {v : V} {vs : List V} {d : D} {ds : List D} : DqT K N Hs H v d → DqTs K N Hs H vs ds → DqTs K N Hs H (v :: vs) (d :: ds)
inductive ArgsOk (K : Fg) (N : Addr → Prop) (Hs : Hp) (σ : L2.St) : List V → List Arg → Prop
  | nil : ArgsOk K N Hs σ [] []
  | v {v : V} {vs : List V} {d : D} {as : List Arg} : Dq K N Hs v d → ArgsOk K N Hs σ vs as → ArgsOk K N Hs σ (v :: vs) (.v d :: as)
  | s {v : V} {vs : List V} {i : Nat} {as : List Arg} : σ[i]? = some (some v) → ArgsOk K N Hs σ vs as → ArgsOk K N Hs σ (v :: vs) (.s i :: as)
section
variable (K : Fg) (R : Rg) (C : Nat → Addr) (W : WX)
def tAD (f : M (List D)) : TA := fun σ H Q => ∃ (Hs : Hp) (δ : Envr), Wd K R σ δ Hs H ∧ Ok (f δ) (fun ds δ' => ∀ vs Hs' H', Wd K R σ δ' Hs' H' → Go σ δ Hs H δ' Hs' H' → DqAll K R.N Hs' vs ds → Q vs H') (Xc K R C W σ)
def tAR (f : M (List D)) : TA := fun σ H Q => ∃ (Hs : Hp) (δ : Envr), Wd K R σ δ Hs H ∧ Ok (f δ) (fun ds δ' => ∀ vs Hs' H', Wd K R σ δ' Hs' H' → Go σ δ Hs H δ' Hs' H' → DqTs K R.N Hs' H' vs ds → Q vs H') (Xc K R C W σ)
def tAA (f : M (List Arg)) : TA := fun σ H Q => ∃ (Hs : Hp) (δ : Envr), Wd K R σ δ Hs H ∧ Ok (f δ) (fun as δ' => ∀ vs Hs' H', Wd K R σ δ' Hs' H' → Go σ δ Hs H δ' Hs' H' → ArgsOk K R.N Hs' σ vs as → Q vs H') (Xc K R C W σ)
end
def NotStar (e : Expr) : Prop := ∀ v p, e ≠ .Starred v p
theorem star_of {e : Expr} {es : List Expr} {env : Env} (h : NotStar e) : starEach (e :: es) env = (false, eval e env) :: starEach es env := by
  cases e <;> first | rfl | exact absurd rfl (h _ _)
section
variable {X : Cx} {R : Rg} {C : Nat → Addr} {W : WX} {cf : CF}
theorem tAD_bind {α : Type} {f : M (List D)} {k : List D → M α} {g : α → Envr → Prop} {σ : L2.St} {δ : Envr} {Hs H : Hp} {Q : List V → Hp → Prop} (wd : Wd X.K R σ δ Hs H) (h : Ok ((f >>= k) δ) g (Xc X.K R C W σ))
    (hk : ∀ ds δ1 vs Hs1 H1, Wd X.K R σ δ1 Hs1 H1 → Go σ δ Hs H δ1 Hs1 H1 → DqAll X.K R.N Hs1 vs ds → f δ = .ok ds δ1 → Ok (k ds δ1) g (Xc X.K R C W σ) → Q vs H1) : tAD X.K R C W f σ H Q :=
  ⟨Hs, δ, wd, h.bindI.withEq.imp (fun ds δ1 hr vs Hs1 H1 w gg d => hk ds δ1 vs Hs1 H1 w gg d hr.2 hr.1) fun _ _ _ x => x⟩
theorem tAR_bind {α : Type} {f : M (List D)} {k : List D → M α} {g : α → Envr → Prop} {σ : L2.St} {δ : Envr} {Hs H : Hp} {Q : List V → Hp → Prop} (wd : Wd X.K R σ δ Hs H) (h : Ok ((f >>= k) δ) g (Xc X.K R C W σ))
    (hk : ∀ ds δ1 vs Hs1 H1, Wd X.K R σ δ1 Hs1 H1 → Go σ δ Hs H δ1 Hs1 H1 → DqTs X.K R.N Hs1 H1 vs ds → Ok (k ds δ1) g (Xc X.K R C W σ) → Q vs H1) : tAR X.K R C W f σ H Q :=
  ⟨Hs, δ, wd, h.bindI.imp (fun ds δ1 hr vs Hs1 H1 w gg d => hk ds δ1 vs Hs1 H1 w gg d hr) fun _ _ _ x => x⟩
theorem tAA_bind {α : Type} {f : M (List Arg)} {k : List Arg → M α} {g : α → Envr → Prop} {σ : L2.St} {δ : Envr} {Hs H : Hp} {Q : List V → Hp → Prop} (wd : Wd X.K R σ δ Hs H) (h : Ok ((f >>= k) δ) g (Xc X.K R C W σ))
    (hk : ∀ ds δ1 vs Hs1 H1, Wd X.K R σ δ1 Hs1 H1 → Go σ δ Hs H δ1 Hs1 H1 → ArgsOk X.K R.N Hs1 σ vs ds → Ok (k ds δ1) g (Xc X.K R C W σ) → Q vs H1) : tAA X.K R C W f σ H Q :=
  ⟨Hs, δ, wd, h.bindI.imp (fun ds δ1 hr vs Hs1 H1 w gg d => hk ds δ1 vs Hs1 H1 w gg d hr) fun _ _ _ x => x⟩
theorem d_nil : PA X [] (tAD X.K R C W (evD cf .nil)) := pa_nil.mono fun σ H Q ⟨Hs, δ, wd, h⟩ => by
  rw [evD] at h
  exact h [] Hs H wd .refl .nil
theorem d_cons {e : Expr} {es : List Expr} {x : Ex} {xs : Exs} (hs : NotStar e) (ha : PE X e (tE X.K R C W (ev cf x))) (hr : PA X es (tAD X.K R C W (evD cf xs))) : PA X (e :: es) (tAD X.K R C W (evD cf (.cons x xs))) := by
  refine (pa_cons ha hr (star_of hs)).mono fun σ H Q ⟨Hs, δ, wd, h⟩ => ?_
  rw [evD] at h
  refine tE_bind wd h fun r δ1 v Hs1 H1 p1 k1 => ?_
  obtain ⟨Hs2, w2, g2, o2, _⟩ := p1.opd
  obtain ⟨d, δ3, Hs3, w3, g3, hd, k3⟩ := esc_ok w2 o2 k1
  refine tAD_bind w3 k3 fun ds δ4 vs Hs4 H4 w4 g4 hds _ k4 => ?_
  exact k4 (v :: vs) Hs4 H4 w4 ((g2.trans g3).trans g4) (.cons (hd.mono g4.hs) hds)
theorem r_nil : PA X [] (tAR X.K R C W (evR cf .nil)) := pa_nil.mono fun σ H Q ⟨Hs, δ, wd, h⟩ => by
  rw [evR] at h
  exact h [] Hs H wd .refl .nil
theorem r_cons {e : Expr} {es : List Expr} {x : Ex} {xs : Exs} (hs : NotStar e) (ha : PE X e (tE X.K R C W (ev cf x))) (hr : PA X es (tAR X.K R C W (evR cf xs))) : PA X (e :: es) (tAR X.K R C W (evR cf (.cons x xs))) := by
  refine (pa_cons ha hr (star_of hs)).mono fun σ H Q ⟨Hs, δ, wd, h⟩ => ?_
  rw [evR] at h
  refine tE_bind wd h fun r δ1 v Hs1 H1 p1 k1 => ?_
  obtain ⟨Hs2, w2, g2, o2, _⟩ := p1.opd
  refine tAR_bind w2 k1 fun ds δ4 vs Hs4 H4 w4 g4 hds k4 => ?_
  obtain ⟨d, e1, k5⟩ := rdM_ok k4
  exact k5 (v :: vs) Hs4 H4 w4 (g2.trans g4) (.cons ((o2.mono g4.hs).rd w4 e1) hds)
theorem evD_len : ∀ {es : Exs} {δ δ' : Envr} {ds : List D}, evD cf es δ = .ok ds δ' → ds.length = es.len
  | .nil, _, _, _, h => by rw [evD] at h; cases h; rfl
  | .cons e es, δ, δ', ds, h => by
    rw [evD] at h
    have h : Ok ((ev cf e >>= fun r => esc r >>= fun d => evD cf es >>= fun ds => (pure (d :: ds) : M (List D))) δ) (fun a _ => a = ds) (fun _ _ _ => False) := by
      show Ok _ _ _
      rw [show (ev cf e >>= fun r => esc r >>= fun d => evD cf es >>= fun ds => (pure (d :: ds) : M (List D))) δ = .ok ds δ' from h]
      rfl
    have h1 := h.bindI
    cases q1 : ev cf e δ with
    | exn c d δ1 => rw [q1] at h1; exact h1.elim
    | bad n => rw [q1] at h1; exact h1.elim
    | ok r δ1 =>
      rw [q1] at h1
      have h2 := Ok.bindI h1
      cases q2 : esc r δ1 with
      | exn c d δ1 => rw [q2] at h2; exact h2.elim
      | bad n => rw [q2] at h2; exact h2.elim
      | ok d δ2 =>
        rw [q2] at h2
        have h3 := Ok.bindI h2
        cases q3 : evD cf es δ2 with
        | exn c d δ1 => rw [q3] at h3; exact h3.elim
        | bad n => rw [q3] at h3; exact h3.elim
        | ok ds' δ3 =>
          rw [q3] at h3
          have e1 : d :: ds' = ds := h3
          have e2 := evD_len q3
          rw [← e1, List.length_cons, e2]; rfl
theorem s_lst {es : List Expr} {xs : Exs} {pos : Pos} (hl : xs.len ≤ lim) (ha : PA X es (tAD X.K R C W (evD cf xs))) : PE X (.List es pos) (tE X.K R C W (ev cf (.lst xs))) := by
  refine (pe_lst ha).mono fun σ H Q ⟨Hs, δ, wd, h⟩ => ?_
  rw [ev] at h
  refine tAD_bind wd h fun ds δ1 vs Hs1 H1 w1 g1 hds e k => ⟨?_, fun p hp => ?_⟩
  · rw [hds.length, evD_len e]; exact limS' hl
  · exact k (.ref p) Hs1 _ (.of_or (o := .new ds) g1 w1 (.newO w1.sub hp) ⟨p, vs, rfl, hp, w1.sub.back hp, upd_same, hds⟩)
theorem s_tup {es : List Expr} {xs : Exs} {pos : Pos} {n : Nat} (hl : xs.len ≤ lim) (ha : PA X es (tAD X.K R C W (evD cf xs))) : PE X (.Tuple es n pos) (tE X.K R C W (ev cf (.tup xs))) := by
  refine (pe_tup ha).mono fun σ H Q ⟨Hs, δ, wd, h⟩ => ?_
  rw [ev] at h
  refine tAD_bind wd h fun ds δ1 vs Hs1 H1 w1 g1 hds e k => ⟨?_, fun p hp => ?_⟩
  · rw [hds.length, evD_len e]; exact limS' hl
  · exact k (.ref p) _ _ (.of_or (o := .val (.tup ds)) g1 w1 (.newS w1.sub hp) (show Dq X.K R.N _ _ _ from .tup (.of upd_same) (hds.mono (.new (w1.sub.back hp)))))
theorem s_idx {a i : Expr} {ea ei : Ex} {pos : Pos} (hi : PlainIx i) (ha : PE X a (tE X.K R C W (ev cf ea))) (hb : PE X i (tE X.K R C W (ev cf ei))) : PE X (.Subscript a i pos) (tE X.K R C W (ev cf (.idx ea ei))) := by
  refine (pe_ix (ix_all (N := R.N)) ha hb hi).mono fun σ H Q ⟨Hs, δ, wd, h⟩ => ?_
  rw [ev] at h
  refine two wd h fun x y da db δ2 Hs2 H2 w2 g2 h1 h2 k => ?_
  obtain ⟨d, e, k⟩ := ofO_ok k
  exact ⟨Hs2, da, db, d, w2.sub, h1, h2, e, fun v hv => k v Hs2 H2 (.of_val g2 w2 hv)⟩
/-- an end of a slice -/
def tO (K : Fg) (R : Rg) (C : Nat → Addr) (W : WX) (f : M (Option Int)) : TO := fun σ H Q => ∃ (Hs : Hp) (δ : Envr), Wd K R σ δ Hs H ∧ Ok (f δ) (fun o δ' => ∀ Hs' H', Wd K R σ δ' Hs' H' → Go σ δ Hs H δ' Hs' H' → Q o H') (Xc K R C W σ)
theorem _root_.L2.PO.mono {X : Cx} {e : Option Expr} {t t' : TO} (h : PO X e t) (hm : ∀ σ H Q, t' σ H Q → t σ H Q) : PO X e t' := ⟨fun pins s σ H Q I q => h.run pins s σ H Q I (hm _ _ _ q)⟩
theorem o_no : PO X none (tO X.K R C W (evO cf .no)) := po_none.mono fun σ H Q ⟨Hs, δ, wd, h⟩ => by
  rw [evO] at h
  exact h Hs H wd .refl
theorem o_so {e : Expr} {x : Ex} (ha : PE X e (tE X.K R C W (ev cf x))) : PO X (some e) (tO X.K R C W (evO cf (.so x))) := by
  refine (po_some ha).mono fun σ H Q ⟨Hs, δ, wd, h⟩ => ?_
  rw [evO] at h
  refine tE_bind wd h fun r δ1 v Hs1 H1 p1 k1 => ?_
  obtain ⟨Hs2, w2, g2, o2, _⟩ := p1.opd
  obtain ⟨d, e1, k2⟩ := rdM_ok k1
  have hx := o2.rd w2 e1
  cases d with
  | int i => cases hx; exact ⟨i, rfl, k2 Hs2 H1 w2 g2⟩
  | _ => exact k2.elim
theorem tO_bind {α : Type} {f : M (Option Int)} {k : Option Int → M α} {g : α → Envr → Prop} {σ : L2.St} {δ : Envr} {Hs H : Hp} {Q : Option Int → Hp → Prop} (wd : Wd X.K R σ δ Hs H) (h : Ok ((f >>= k) δ) g (Xc X.K R C W σ))
    (hk : ∀ o δ1 Hs1 H1, Wd X.K R σ δ1 Hs1 H1 → Go σ δ Hs H δ1 Hs1 H1 → Ok (k o δ1) g (Xc X.K R C W σ) → Q o H1) : tO X.K R C W f σ H Q :=
  ⟨Hs, δ, wd, h.bindI.imp (fun ds δ1 hr Hs1 H1 w gg => hk ds δ1 Hs1 H1 w gg hr) fun _ _ _ x => x⟩
theorem s_slc {a : Expr} {lo hi : Option Expr} {ea : Ex} {el eh : OEx} {pos p2 : Pos} (ha : PE X a (tE X.K R C W (ev cf ea))) (hl : PO X lo (tO X.K R C W (evO cf el))) (hh : PO X hi (tO X.K R C W (evO cf eh))) :
    PE X (.Subscript a (.Slice lo hi none p2) pos) (tE X.K R C W (ev cf (.slc ea el eh))) := by
  refine (pe_slice (sl_all (N := R.N)) ha hl hh).mono fun σ H Q ⟨Hs, δ, wd, h⟩ => ?_
  rw [ev] at h
  refine tE_bind wd h fun r δ1 v Hs1 H1 p1 k1 => ?_
  obtain ⟨Hs2, w2, g2, o2, _⟩ := p1.opd
  refine tO_bind w2 k1 fun l δ3 Hs3 H3 w3 g3 k3 => ?_
  refine tO_bind w3 k3 fun u δ4 Hs4 H4 w4 g4 k4 => ?_
  obtain ⟨d, e1, k5⟩ := rdM_ok k4
  obtain ⟨o, e2, k6⟩ := retO_ok k5
  exact ⟨Hs4, d, o, w4.sub, (o2.mono (g3.hs.trans g4.hs)).rd w4 e1, e2, fun v Hs' H' ex ok => k6 v Hs' H' (.of_or ((g2.trans g3).trans g4) w4 ex ok)⟩
/-! ### built-ins -/
def rBi (K : Fg) (N : Addr → Prop) (g : List D → Option OR) : List V → Hp → VK → Prop := fun vs H Q => ∃ (Hs : Hp) (ds : List D) (o : OR), Sub Hs H ∧ DqTs K N Hs H vs ds ∧ g ds = some o ∧ ∀ v Hs' H', Ext Hs H Hs' H' → OROk K N Hs' H' H v o → Q v H'
def rMt (K : Fg) (N : Addr → Prop) (g : D → List D → Option OR) : V → List V → Hp → VK → Prop := fun x vs H Q => ∃ (Hs : Hp) (d : D) (ds : List D) (o : OR), Sub Hs H ∧ DqT K N Hs H x d ∧ DqTs K N Hs H vs ds ∧ g d ds = some o ∧ ∀ v Hs' H', Ext Hs H Hs' H' → OROk K N Hs' H' H v o → Q v H'
theorem s_biB {id : String} {r : List D → Option OR} {x : Str} {e : Expr} {es : List Expr} {xs : Exs} {b : Bi} {p pos : Pos} (hb : b.run = r) (hc : CallR X (.builtin id) (rBi X.K R.N r)) (hg : Gl X x) (hm : X.mg x = none) (hv : bootBuiltins x = some (.builtin id)) (hn : x ≠ "__name__") (hdb : (x == ("__debug__" : Str)) = false)
    (hs : NotStar e) (hpl : (backTo pos (starEach es X.env)).any (·.1) = false) (ha : PA X (e :: es) (tAR X.K R C W (evR cf xs))) : PE X (.Call (.Name x p) (e :: es) [] pos) (tE X.K R C W (ev cf (.bi b xs))) := by
  refine (pe_callB hc hg hm hv ha hn hdb (star_of hs) hpl).mono fun σ H Q ⟨Hs, δ, wd, h⟩ => ?_
  rw [ev, hb] at h
  refine tAR_bind wd h fun ds δ1 vs Hs1 H1 w1 g1 hds k => ?_
  obtain ⟨o, e2, k6⟩ := retO_ok k
  exact ⟨Hs1, ds, o, w1.sub, hds, e2, fun v Hs' H' ex ok => k6 v Hs' H' (.of_or g1 w1 ex ok)⟩
theorem s_biT {id : String} {r : List D → Option OR} {x : Str} {e : Expr} {es : List Expr} {xs : Exs} {b : Bi} {p pos : Pos} (hb : b.run = r) (hc : CallR X (.type id) (rBi X.K R.N r)) (hg : Gl X x) (hm : X.mg x = none) (hv : bootBuiltins x = some (.type id)) (hn : x ≠ "__name__") (hdb : (x == ("__debug__" : Str)) = false)
    (hs : NotStar e) (hpl : (backTo pos (starEach es X.env)).any (·.1) = false) (ha : PA X (e :: es) (tAR X.K R C W (evR cf xs))) : PE X (.Call (.Name x p) (e :: es) [] pos) (tE X.K R C W (ev cf (.bi b xs))) := by
  refine (pe_callTy hc hg hm hv ha hn hdb (star_of hs) hpl).mono fun σ H Q ⟨Hs, δ, wd, h⟩ => ?_
  rw [ev, hb] at h
  refine tAR_bind wd h fun ds δ1 vs Hs1 H1 w1 g1 hds k => ?_
  obtain ⟨o, e2, k6⟩ := retO_ok k
  exact ⟨Hs1, ds, o, w1.sub, hds, e2, fun v Hs' H' ex ok => k6 v Hs' H' (.of_or g1 w1 ex ok)⟩
end
end Rf
set_option linter.all false
set_option maxRecDepth 100000
set_option maxHeartbeats 1000000
set_option Elab.async false
/-! Rf soundness, part 6: the built-ins one by one. -/
namespace Rf
open PySem PySem.Spec PyProof.Rows L2
section
variable {X : Cx} {N : Addr → Prop}
theorem DqTs.one {K : Fg} {Hs H : Hp} {vs : List V} {d : D} (h : DqTs K N Hs H vs [d]) : ∃ v, vs = [v] ∧ DqT K N Hs H v d := by
  cases h with
  | cons h1 h2 => cases h2; exact ⟨_, rfl, h1⟩
theorem DqTs.two {K : Fg} {Hs H : Hp} {vs : List V} {d e : D} (h : DqTs K N Hs H vs [d, e]) : ∃ v w, vs = [v, w] ∧ DqT K N Hs H v d ∧ DqT K N Hs H w e := by
  cases h with
  | cons h1 h2 =>
    cases h2 with
    | cons h3 h4 => cases h4; exact ⟨_, _, rfl, h1, h3⟩
theorem b_len : CallR X (.builtin "len") (rBi X.K N bi_len) := by
  intro pins s σ H vs us Q I r h
  obtain ⟨Hs, ds, o, sb, hd, e, k⟩ := h
  unfold bi_len at e
  split at e <;> try (cases e; done)
  · cases e
    obtain ⟨v, rfl, a, xs, rfl, h1, h2⟩ := hd.one
    exact call_len pins s σ H _ us Q I r ⟨_, xs.length, rfl, .inl ⟨xs, h1.sql, rfl⟩, by rw [h2.length]; exact k _ _ _ (.refl sb) (.int _)⟩
  · cases e
    obtain ⟨v, rfl, h1⟩ := hd.one
    cases h1 with
    | tup h1 h2 =>
      rename_i a xs
      exact call_len pins s σ H _ us Q I r ⟨_, xs.length, rfl, .inr ⟨xs, sb.sqt h1, rfl⟩, by rw [h2.length]; exact k _ _ _ (.refl sb) (.int _)⟩
  · obtain ⟨v, rfl, h1⟩ := hd.one
    split at e <;> try (cases e; done)
    rename_i hl
    cases e
    cases h1
    exact call_len pins s σ H _ us Q I r ⟨_, _, rfl, ⟨limS' hl, rfl⟩, k _ _ _ (.refl sb) (.int _)⟩
theorem b_abs : CallR X (.builtin "abs") (rBi X.K N bi_abs) := by
  intro pins s σ H vs us Q I r h
  obtain ⟨Hs, ds, o, sb, hd, e, k⟩ := h
  unfold bi_abs at e
  split at e <;> try (cases e; done)
  cases e
  obtain ⟨v, rfl, h1⟩ := hd.one
  cases h1
  exact call_abs pins s σ H _ us Q I r ⟨_, rfl, k _ _ _ (.refl sb) (.int _)⟩
theorem b_max2 (hc : X.calm = true) : CallR X (.builtin "max") (rBi X.K N bi_max2) := by
  intro pins s σ H vs us Q I r h
  obtain ⟨Hs, ds, o, sb, hd, e, k⟩ := h
  unfold bi_max2 at e
  split at e <;> try (cases e; done)
  cases e
  obtain ⟨v, w, rfl, h1, h2⟩ := hd.two
  cases h1; cases h2
  exact call_max2 hc pins s σ H _ us Q I r ⟨_, _, rfl, k _ _ _ (.refl sb) (.int _)⟩
theorem b_min2 (hc : X.calm = true) : CallR X (.builtin "min") (rBi X.K N bi_min2) := by
  intro pins s σ H vs us Q I r h
  obtain ⟨Hs, ds, o, sb, hd, e, k⟩ := h
  unfold bi_min2 at e
  split at e <;> try (cases e; done)
  cases e
  obtain ⟨v, w, rfl, h1, h2⟩ := hd.two
  cases h1; cases h2
  exact call_min2 hc pins s σ H _ us Q I r ⟨_, _, rfl, k _ _ _ (.refl sb) (.int _)⟩
theorem ints?_map : ∀ {ds : List D} {is : List Int}, ints? ds = some is → ds = is.map D.int
  | [], _, h => by cases h; rfl
  | .int i :: r, is, h => by
    unfold ints? at h
    obtain ⟨l, h1, h2⟩ := Option.map_eq_some_iff.mp h
    cases h2
    rw [ints?_map h1]; rfl
  | .non :: _, _, h | .bl _ :: _, _, h | .str _ :: _, _, h | .lst _ _ :: _, _, h | .tup _ :: _, _, h | .dct :: _, _, h | .rng _ _ :: _, _, h => by cases h
theorem b_sum (hc : X.calm = true) : CallR X (.builtin "sum") (rBi X.K N bi_sum) := by
  intro pins s σ H vs us Q I r h
  obtain ⟨Hs, ds, o, sb, hd, e, k⟩ := h
  unfold bi_sum at e
  split at e <;> try (cases e; done)
  obtain ⟨is, e1, e2⟩ := Option.map_eq_some_iff.mp e
  cases e2
  obtain ⟨v, rfl, a, xs, rfl, h1, h2⟩ := hd.one
  rw [ints?_map e1] at h2
  have e3 := h2.ints
  subst e3
  exact cr_sum hc pins s σ H _ us Q I r ⟨a, is, rfl, h1.sql, k _ _ _ (.refl sb) (.int _)⟩
theorem b_int : CallR X (.type "int") (rBi X.K N bi_int) := by
  intro pins s σ H vs us Q I r h
  obtain ⟨Hs, ds, o, sb, hd, e, k⟩ := h
  unfold bi_int at e
  split at e <;> try (cases e; done)
  · cases e
    obtain ⟨v, rfl, h1⟩ := hd.one
    cases h1
    exact call_int1 pins s σ H _ us Q I r (.inl ⟨_, rfl, k _ _ _ (.refl sb) (.int _)⟩)
  · cases e
    obtain ⟨v, rfl, h1⟩ := hd.one
    cases h1
    exact call_int1 pins s σ H _ us Q I r (.inr ⟨_, rfl, k _ _ _ (.refl sb) (.int _)⟩)
theorem b_str : CallR X (.type "str") (rBi X.K N bi_str) := by
  intro pins s σ H vs us Q I r h
  obtain ⟨Hs, ds, o, sb, hd, e, k⟩ := h
  unfold bi_str at e
  split at e <;> try (cases e; done)
  split at e <;> try (cases e; done)
  rename_i hl
  cases e
  obtain ⟨v, rfl, h1⟩ := hd.one
  cases h1
  exact call_str_int pins s σ H _ us Q I r ⟨_, rfl, hl, k _ _ _ (.refl sb) (.str _)⟩
theorem b_toTuple : CallR X (.type "tuple") (rBi X.K N bi_toTuple) := by
  intro pins s σ H vs us Q I r h
  obtain ⟨Hs, ds, o, sb, hd, e, k⟩ := h
  unfold bi_toTuple at e
  split at e <;> try (cases e; done)
  · cases e
    obtain ⟨v, rfl, a, xs, rfl, h1, h2⟩ := hd.one
    exact call_tuple_of pins s σ H _ us Q I r ⟨a, xs, rfl, .inl ⟨h1.sql, newT sb k h2⟩⟩
  · cases e
    obtain ⟨v, rfl, h1⟩ := hd.one
    cases h1 with
    | tup h1 h2 => exact call_tuple_of pins s σ H _ us Q I r ⟨_, _, rfl, .inr ⟨sb.sqt h1, k _ _ _ (.refl sb) (show Dq X.K N Hs _ _ from .tup h1 h2)⟩⟩
theorem range1_call {prog : Program} {w : World} {A : Around} {E : Value → Shared → Prop} {s : Shared} {i : Int} {t : Tok} {Q : Value → Shared → Prop}
    (h : ∀ t1 t2 t3 tk, Q (.ref s.heap.objs.size) { s with heap := s.heap.push { cls := .type "range", data := .fields #[.int 0 t1, .int i t2, .int 1 t3] }, toks := tk }) : wpAny (model prog w) A (call (.type "range") [.int i t]) Q E s := by
  refine call_range_1 ?_
  exact h _ _ _ _
theorem b_range1 : CallR X (.type "range") (rBi X.K N bi_range1) := by
  intro pins s σ H vs us Q I r h
  obtain ⟨Hs, ds, o, sb, hd, e, k⟩ := h
  unfold bi_range1 at e
  split at e <;> try (cases e; done)
  split at e <;> try (cases e; done)
  cases e
  obtain ⟨v, rfl, h1⟩ := hd.one
  cases h1
  obtain ⟨u, rfl, t, rfl⟩ := vals1 r
  refine range1_call fun t1 t2 t3 tk => ?_
  have hf := I.fresh
  exact ⟨.ref s.heap.objs.size, upd H s.heap.objs.size (.rng 0 _), I.laid (t' := tk) (fun b o e => Heap.get?_push_of_some _ e) (Nat.le_refl _) ⟨t1, t2, t3, Heap.get?_push_size _ rfl⟩, rfl, k _ _ _ (.newS sb hf) (show Dq X.K N _ _ _ from .rng upd_same)⟩
theorem DqAll.reads {K : Fg} {Hs H : Hp} {ds : List D} {vs : List V} (s : Sub Hs H) (h : DqAll K N Hs vs ds) (e : D.deps ds < 1000) : DpAll K H vs (D.pys ds) := (h.mono s).dp e
/-! least, greatest -/
theorem least_py : ∀ (ds : List D) (d : D), (least d ds).py = W.minD d.py (D.pys ds)
  | [], d => rfl
  | x :: r, d => by
    unfold least
    rw [least_py r]
    show W.minD _ (D.pys r) = W.minD d.py (x.py :: D.pys r)
    unfold W.minD D.lt
    rw [List.foldl_cons]
    congr 1
    split <;> rfl
theorem most_py : ∀ (ds : List D) (d : D), (most d ds).py = W.maxD d.py (D.pys ds)
  | [], d => rfl
  | x :: r, d => by
    unfold most
    rw [most_py r]
    show W.maxD _ (D.pys r) = W.maxD d.py (x.py :: D.pys r)
    unfold W.maxD D.lt
    rw [List.foldl_cons]
    congr 1
    split <;> rfl
mutual
theorem flat_inj : ∀ (a b : D), a.flat = true → b.flat = true → a.py = b.py → a = b
  | .non, b, _, h, e => by cases b <;> first | rfl | (cases h; done) | (cases e; done)
  | .bl x, b, _, h, e => by cases b <;> first | (cases h; done) | (injection e with e; rw [e]) | (cases e; done)
  | .int x, b, _, h, e => by cases b <;> first | (cases h; done) | (injection e with e; rw [e]) | (cases e; done)
  | .str x, b, _, h, e => by cases b <;> first | (cases h; done) | (injection e with e; rw [e]) | (cases e; done)
  | .tup xs, b, h1, h, e => by
    cases b with
    | tup ys =>
      have e : PyData.tuple (D.pys xs) = PyData.tuple (D.pys ys) := e
      injection e with e
      rw [flats_inj xs ys h1 h e]
    | lst f ys => cases h
    | dct => cases h
    | rng a b => cases h
    | _ => cases e
  | .lst _ _, _, h, _, _ => by cases h
  | .dct, _, h, _, _ => by cases h
  | .rng _ _, _, h, _, _ => by cases h
theorem flats_inj : ∀ (a b : List D), D.flats a = true → D.flats b = true → D.pys a = D.pys b → a = b
  | [], [], _, _, _ => rfl
  | [], _ :: _, _, _, e => by cases e
  | _ :: _, [], _, _, e => by cases e
  | x :: xs, y :: ys, h1, h2, e => by
    have h1 : (x.flat && D.flats xs) = true := h1
    have h2 : (y.flat && D.flats ys) = true := h2
    simp only [Bool.and_eq_true] at h1 h2
    have e : x.py :: D.pys xs = y.py :: D.pys ys := e
    injection e with e1 e2
    rw [flat_inj x y h1.1 h2.1 e1, flats_inj xs ys h1.2 h2.2 e2]
end
theorem flats_mem : ∀ {ds : List D} {d : D}, D.flats ds = true → d ∈ ds → d.flat = true
  | x :: xs, d, h, m => by
    have h : (x.flat && D.flats xs) = true := h
    simp only [Bool.and_eq_true] at h
    rcases List.mem_cons.mp m with rfl | m
    · exact h.1
    · exact flats_mem h.2 m
theorem least_mem : ∀ (ds : List D) (d : D), least d ds ∈ d :: ds
  | [], d => by simp [least]
  | x :: r, d => by
    unfold least
    have := least_mem r (if D.lt x d then x else d)
    rcases List.mem_cons.mp this with h | h
    · rw [h]; split <;> simp
    · simp [h]
theorem most_mem : ∀ (ds : List D) (d : D), most d ds ∈ d :: ds
  | [], d => by simp [most]
  | x :: r, d => by
    unfold most
    have := most_mem r (if D.lt d x then x else d)
    rcases List.mem_cons.mp this with h | h
    · rw [h]; split <;> simp
    · simp [h]
theorem alike_all {ds : List D} (h : D.alike ds = true) : W.AlikeAll (D.pys ds) ∧ D.deps ds ≤ 50 := by
  unfold D.alike at h
  simp only [Bool.and_eq_true, List.all_eq_true, decide_eq_true_eq] at h
  refine ⟨⟨fun x hx y hy => ?_, fun x hx => ?_⟩, h.2⟩
  · rw [pys_map] at hx hy
    obtain ⟨a, ha, rfl⟩ := List.mem_map.mp hx
    obtain ⟨b, hb, rfl⟩ := List.mem_map.mp hy
    exact h.1.1 a ha b hb
  · rw [pys_map] at hx
    obtain ⟨a, ha, rfl⟩ := List.mem_map.mp hx
    have := h.1.2 a ha
    cases a <;> first | (intro z; cases z; done) | (cases this; done)
theorem minmax_end {pins : List (Addr × Obj)} {s : Shared} {σ : L2.St} {H Hs : Hp} {Q : VK} {its : List Value} {xs : List V} {ds : List D} {m : D} {i : Nat} {v : Value} {h' : Heap} {tk : Nat} {as bs : List Addr} (I : Inv X pins σ H s) (sb : Sub Hs H) (rv : Vals xs its) (h2 : DqAll X.K N Hs xs ds) (hr : ReadsAll s.heap its (D.pys ds) as)
    (al : W.AlikeAll (D.pys ds)) (fl : D.flats ds = true) (hm : m ∈ ds) (hv : its[i]? = some v) (rd : Reads h' v m.py bs) (kp : ∀ b o, s.heap.get? b = some o → h'.get? b = some o)
    (k : ∀ v Hs' H', Ext Hs H Hs' H' → OROk X.K N Hs' H' H v (.val m) → Q v H') : EP X pins σ Q v { s with heap := h', toks := tk } := by
  have hi : i < ds.length := by
    have := (List.getElem?_eq_some_iff.mp hv).1
    rw [← h2.length, rv.length]; exact this
  obtain ⟨w, hw, hd⟩ := h2.get (List.getElem?_eq_getElem hi)
  obtain ⟨u, hu, ru⟩ := rv.get hw
  rw [hv] at hu; cases hu
  have hmem : ds[i] ∈ ds := List.getElem_mem hi
  obtain ⟨cs, r2, _⟩ := W.readsAll_at hr i v hv
  have e : (D.pys ds).getD i .none = (ds[i]).py := by rw [pys_map]; simp [hi]
  rw [e] at r2
  have r3 := W.reads_keeps kp r2
  have hpm : ∀ d ∈ ds, d.py ∈ D.pys ds := fun d hd => by rw [pys_map]; exact List.mem_map.mpr ⟨d, hd, rfl⟩
  have e2 := W.alike_unique _ _ _ _ _ (al.1 _ (hpm _ hmem) _ (hpm _ hm)) r3 rd
  have e3 := flat_inj _ _ (flats_mem fl hmem) (flats_mem fl hm) e2
  rw [e3] at hd
  exact ⟨w, H, I.kept kp, ru, k w Hs H (.refl sb) hd⟩
theorem b_minL (hc : X.calm = true) (hu : X.A.units + 66 < cLine) : CallR X (.builtin "min") (rBi X.K N bi_minL) := by
  intro pins s σ H vs us Q I r h
  obtain ⟨Hs, ds, o, sb, hd, e, k⟩ := h
  unfold bi_minL at e
  split at e <;> try (cases e; done)
  rename_i f x rst
  split at e <;> try (cases e; done)
  rename_i hl
  cases e
  simp only [Bool.and_eq_true] at hl
  obtain ⟨al, dp⟩ := alike_all hl.1
  obtain ⟨v, rfl, a, xs, rfl, h1, h2⟩ := hd.one
  obtain ⟨its, rv, pl, hz⟩ := I.list h1.sql
  rw [Vals.ref1 r]
  obtain ⟨as, hr⟩ := Dp.readsAll I _ _ its (h2.reads sb (by omega)) rv
  have hdp := (depths_py _ (show D.deps (x :: rst) < 1000 by omega)).1
  refine W.min_list_data (I.ok.hd hc) pl.isList (x := x.py) (xs := D.pys rst) (as := as) hr al (by rw [show x.py :: D.pys rst = D.pys (x :: rst) from rfl, hdp]; omega) fun i v h' tk bs hv rd kp => ?_
  rw [← least_py] at rd
  exact minmax_end I sb rv h2 hr al hl.2 (least_mem _ _) (by simpa using hv) rd kp k
theorem b_maxL (hc : X.calm = true) (hu : X.A.units + 66 < cLine) : CallR X (.builtin "max") (rBi X.K N bi_maxL) := by
  intro pins s σ H vs us Q I r h
  obtain ⟨Hs, ds, o, sb, hd, e, k⟩ := h
  unfold bi_maxL at e
  split at e <;> try (cases e; done)
  rename_i f x rst
  split at e <;> try (cases e; done)
  rename_i hl
  cases e
  simp only [Bool.and_eq_true] at hl
  obtain ⟨al, dp⟩ := alike_all hl.1
  obtain ⟨v, rfl, a, xs, rfl, h1, h2⟩ := hd.one
  obtain ⟨its, rv, pl, hz⟩ := I.list h1.sql
  rw [Vals.ref1 r]
  obtain ⟨as, hr⟩ := Dp.readsAll I _ _ its (h2.reads sb (by omega)) rv
  have hdp := (depths_py _ (show D.deps (x :: rst) < 1000 by omega)).1
  refine W.max_list_data (I.ok.hd hc) pl.isList (x := x.py) (xs := D.pys rst) (as := as) hr al (by rw [show x.py :: D.pys rst = D.pys (x :: rst) from rfl, hdp]; omega) fun i v h' tk bs hv rd kp => ?_
  rw [← most_py] at rd
  exact minmax_end I sb rv h2 hr al hl.2 (most_mem _ _) (by simpa using hv) rd kp k
end
end Rf
set_option linter.all false
set_option maxRecDepth 100000
set_option maxHeartbeats 1000000
set_option Elab.async false
/-! Rf soundness, part 7: sum(lists, []). -/
namespace PySem
open Sem (wp)
namespace SumL
abbrev lo (xs : List Value) (c : Nat) : Obj := { cls := .type "list", dict := none, data := .seq xs.toArray c, slots := #[] }
section
variable {prog : Program} {w : World} {A : Around} {R : Result → Shared → Prop} {I ax : Addr} {items : Array Value}
theorem codeAny_sumL (hh : A.in1.handled = none) (hne : ax ≠ I) (ls : Nat → Addr) (xs : Nat → List Value) (cn : Nat → Nat) (hP : ∀ (i : Nat) (v : Value), items[i]? = some v → v = .ref (ls i)) (S : Addr) (hSI : S ≠ I) (hSa : S ≠ ax) :
    ∀ (k i : Nat) (s : Shared) (T : Addr) (acc : List Value) (cT c : Nat), items.size - i = k → i ≤ items.size → s.heap.IsListIter I ax i → s.heap.IsList ax items → s.heap.get? S = some (lo [.ref T] c) → s.heap.get? T = some (lo acc cT) → T ≠ S → T ≠ I →
      (∀ j, i ≤ j → j < items.size → s.heap.get? (ls j) = some (lo (xs j) (cn j)) ∧ ls j ≠ S ∧ ls j ≠ I) →
      acc.length + (((List.range items.size).drop i).flatMap xs).length ≤ sizeLine →
      (∀ h' tk T' cT', (∀ b o, b ≠ I → b ≠ S → s.heap.get? b = some o → h'.get? b = some o) → h'.get? T' = some (lo (acc ++ ((List.range items.size).drop i).flatMap xs) cT') → (i = items.size ∧ T' = T) ∨ (i < items.size ∧ s.heap.get? T' = none) → R (.ok (.ret (.ref T'))) { s with heap := h', toks := tk }) →
      codeAny (model prog w) A (.builtin "sum.loop" ⟨[.ref I, .ref S, rawInt 2, rawInt 0], []⟩) R s := by
  have W := Walks.list (prog := prog) (w := w) hh I ax hne items
  intro k
  induction k with
  | zero =>
    intro i s T acc cT c hk hi hst hax hS hT hTS hTw hl hz hR
    have hin : i = items.size := by omega
    subst hin
    refine codeAny_builtin F.entry_sum_loop ?_
    rw [Around.under_plainId F.plain_sum_loop _]
    show wpAny _ A.in1 (seqItems? (.ref S) >>= _) _ _ s
    refine wpAny_bind (wpAny_seqItems hS rfl ?_)
    show wpAny _ A.in1 (tryCatch (pyNext (.ref I)) _ >>= _) _ _ s
    refine wpAny_bind (wpAny_tryCatch (W.done s _ _ ⟨hst, hax⟩ fun h' tk hk' => ?_))
    refine wpAny_pure (hR h' tk T cT (fun b o hbw _ e => hk' b o (by simpa using hbw) e) ?_ (.inl ⟨rfl, rfl⟩))
    have e : ((List.range items.size).drop items.size) = [] := by simp
    rw [e, List.flatMap_nil, List.append_nil]
    exact hk' T _ (by simpa using hTw) hT
  | succ k ih =>
    intro i s T acc cT c hk hi hst hax hS hT hTS hTw hl hz hR
    have hlt : i < items.size := by omega
    have ed : (List.range items.size).drop i = i :: (List.range items.size).drop (i + 1) := by
      rw [List.drop_eq_getElem_cons (by simpa using hlt)]; simp
    refine codeAny_builtin F.entry_sum_loop ?_
    rw [Around.under_plainId F.plain_sum_loop _]
    show wpAny _ A.in1 (seqItems? (.ref S) >>= _) _ _ s
    refine wpAny_bind (wpAny_seqItems hS rfl ?_)
    show wpAny _ A.in1 (tryCatch (pyNext (.ref I)) _ >>= _) _ _ s
    refine wpAny_bind (wpAny_tryCatch (W.item i s _ _ hlt ⟨hst, hax⟩ fun v h1 tk hPv hst' hk' => ?_))
    obtain ⟨hst', hax'⟩ := hst'
    obtain rfl := hP i v hPv
    have kI : ∀ b o, b ≠ I → s.heap.get? b = some o → h1.get? b = some o := fun b o hb e => hk' b o (by simpa using hb) e
    have hS1 := kI S _ hSI hS
    have hT1 := kI T _ hTw hT
    obtain ⟨hL, hLS, hLw⟩ := hl i (Nat.le_refl _) hlt
    have hL1 := kI _ _ hLw hL
    show wpAny _ A.in1 ((holding [Value.ref (ls i)] (binaryOp .Add (.ref T) (.ref (ls i)))).attempt >>= _) _ _ _
    have hz' := hz
    rw [ed, List.flatMap_cons, List.length_append] at hz'
    refine wpAny_bind (wpAny_attempt (wpAny_holding (PySem.P.add_list hT1 hL1 ?_ (by rw [List.size_toArray, List.size_toArray]; omega))))
    have ea : acc.toArray ++ (xs i).toArray = (acc ++ xs i).toArray := by simp
    rw [ea]
    generalize hh2 : h1.push { cls := .type "list", data := .seq (acc ++ xs i).toArray } = h2
    have k12 : ∀ b o, h1.get? b = some o → h2.get? b = some o := fun b o e => by rw [← hh2]; exact Heap.get?_push_of_some _ e
    have hN2 : h2.get? h1.objs.size = some (lo (acc ++ xs i) 0) := by rw [← hh2]; exact Heap.get?_push_size _ rfl
    have nS : h1.objs.size ≠ S := fun z => by rw [← z] at hS1; exact Nat.lt_irrefl _ (Heap.lt_size hS1)
    obtain ⟨oI, eI, _⟩ := id hst'
    have nI : h1.objs.size ≠ I := fun z => by rw [← z] at eI; exact Nat.lt_irrefl _ (Heap.lt_size eI)
    have fresh : s.heap.get? h1.objs.size = none := by
      cases q : s.heap.get? h1.objs.size with
      | none => rfl
      | some o => exact absurd (Heap.lt_size (kI _ _ nI q)) (Nat.lt_irrefl _)
    show wpAny _ A.in1 (updateSeq S (fun _ => #[.ref h1.objs.size]) >>= _) _ _ _
    have hS2 := k12 _ _ hS1
    refine wpAny_bind (wpAny_updateSeq hS2 rfl ?_)
    have hS3 := Heap.get?_update_self (Obj.mapSeq fun _ => #[Value.ref h1.objs.size]) hS2 rfl
    have o3 : ∀ b, b ≠ S → (h2.update S (Obj.mapSeq fun _ => #[Value.ref h1.objs.size])).get? b = h2.get? b := fun b hb => Heap.get?_update_other _ _ (fun z => hb z.symm)
    refine wpAny_bind (wpAny_letGo ?_)
    refine wpAny_bind (wpAny_updateSeq hS3 rfl ?_)
    have hS4 := Heap.get?_update_self (Obj.mapSeq fun _ => #[Value.ref h1.objs.size]) hS3 rfl
    have o4 : ∀ b, b ≠ S → ((h2.update S (Obj.mapSeq fun _ => #[Value.ref h1.objs.size])).update S (Obj.mapSeq fun _ => #[Value.ref h1.objs.size])).get? b = h2.get? b := fun b hb => (Heap.get?_update_other _ _ (fun z => hb z.symm)).trans (o3 b hb)
    generalize hh4 : (h2.update S (Obj.mapSeq fun _ => #[Value.ref h1.objs.size])).update S (Obj.mapSeq fun _ => #[Value.ref h1.objs.size]) = h4 at hS4 o4
    have k14 : ∀ b o, b ≠ S → h1.get? b = some o → h4.get? b = some o := fun b o hb e => (o4 b hb).trans (k12 b o e)
    refine wpAny_pure ⟨plainId_quiet F.plain_sum_loop _, ih (i + 1) _ h1.objs.size (acc ++ xs i) 0 _ (by omega) hlt (hst'.at fun o e => k14 _ _ (Ne.symm hSI) e) (hax'.at fun o e => k14 _ _ (Ne.symm hSa) e) hS4 ((o4 _ nS).trans hN2) nS nI (fun j hj hjn => ?_) ?_ fun h' tk' T' cT' hk4 hT' hor => ?_⟩
    · obtain ⟨q1, q2, q3⟩ := hl j (by omega) hjn
      exact ⟨k14 _ _ q2 (kI _ _ q3 q1), q2, q3⟩
    · rw [List.length_append]; omega
    · refine hR h' tk' T' cT' (fun b o hb1 hb2 e => hk4 b o hb1 hb2 (k14 b o hb2 (kI b o hb1 e))) ?_ (.inr ⟨hlt, ?_⟩)
      · rw [ed, List.flatMap_cons, ← List.append_assoc]; exact hT'
      · rcases hor with ⟨_, rfl⟩ | ⟨_, hn⟩
        · exact fresh
        · cases q : s.heap.get? T' with
          | none => rfl
          | some o =>
            have q1 : T' ≠ I := fun z => by
              rw [z] at hn
              rw [(k14 I oI (Ne.symm hSI) eI)] at hn
              cases hn
            have q2 : T' ≠ S := fun z => by
              rw [z] at hn
              have : h4.get? S = none := hn
              rw [hS4] at this; cases this
            have : h4.get? T' = none := hn
            rw [k14 T' o q2 (kI T' o q1 q)] at this
            cases this
theorem sub_list_str : isSubtype (.type "list") (.type "str") = pure false := by rw [isSubtype_type]; kernel_rfl
theorem sub_list_bytes : isSubtype (.type "list") (.type "bytes") = pure false := by rw [isSubtype_type]; kernel_rfl
theorem sub_list_bytearray : isSubtype (.type "list") (.type "bytearray") = pure false := by rw [isSubtype_type]; kernel_rfl
theorem args_sum2 (a b : Value) : argsOk "sum" ⟨[a, b], []⟩ := by unfold argsOk; kernel_rfl
theorem call_sumL {E : Value → Shared → Prop} {s : Shared} {Q : Value → Shared → Prop} {e : Addr} {c0 : Nat} (hh : A.handled = none) (ls : Nat → Addr) (xs : Nat → List Value) (cn : Nat → Nat) (hP : ∀ (i : Nat) (v : Value), items[i]? = some v → v = .ref (ls i)) (hax : s.heap.IsList ax items) (he : s.heap.get? e = some (lo [] c0))
    (hl : ∀ j, j < items.size → s.heap.get? (ls j) = some (lo (xs j) (cn j))) (hz : ((List.range items.size).flatMap xs).length ≤ sizeLine)
    (hQ : ∀ h' tk T' cT', (∀ b o, s.heap.get? b = some o → h'.get? b = some o) → h'.get? T' = some (lo ((List.range items.size).flatMap xs) cT') → (items.size = 0 ∧ T' = e) ∨ s.heap.get? T' = none → Q (.ref T') { s with heap := h', toks := tk }) :
    wpAny (model prog w) A (call (.builtin "sum") [.ref ax, .ref e]) Q E s := by
  refine call_function_tree F.kind_sum F.plain_sum F.entry_sum (args_sum2 _ _) ?_
  unfold Builtin.«sum»
  simp only [List.length_cons, List.length_nil]
  rw [if_neg (by decide)]
  refine wpAny_bind (wpAny_of_eq (show Builtin.Builtins.bindParams "sum" ["start"] 0 ⟨[.ref e], []⟩ = pure [some (.ref e)] from rfl) ?_)
  refine wpAny_bind (wpAny_pyIter_list hax ?_)
  have k12 : ∀ b o, s.heap.get? b = some o → (s.heap.push { cls := .type "list_iterator", data := .fields #[.ref ax, .int 0 0] }).get? b = some o := fun b o q => Heap.get?_push_of_some _ q
  have hI2 : (s.heap.push { cls := .type "list_iterator", data := .fields #[.ref ax, .int 0 0] }).IsListIter s.heap.objs.size ax 0 := ⟨_, Heap.get?_push_size _ rfl, rfl, rfl⟩
  obtain ⟨oax, eax, cax⟩ := id hax
  have nax : ax ≠ s.heap.objs.size := Nat.ne_of_lt (Heap.lt_size eax)
  have hax2 : (s.heap.push { cls := .type "list_iterator", data := .fields #[.ref ax, .int 0 0] }).IsList ax items := hax.at fun o q => k12 _ _ q
  have he2 := k12 _ _ he
  have ne : e ≠ s.heap.objs.size := Nat.ne_of_lt (Heap.lt_size he)
  generalize hs2 : (s.heap.push { cls := .type "list_iterator", data := .fields #[.ref ax, .int 0 0] }) = h2 at k12 hI2 hax2 he2
  have ty : ∀ tk, Shared.TypeIs { s with heap := h2, toks := tk } (.ref e) "list" := fun _ => ⟨_, he2, rfl⟩
  refine wpAny_bind (wpAny_pure ?_)
  simp only [List.forIn_cons, List.forIn_nil]
  refine wpAny_bind (wpAny_bind (wpAny_bind (wpAny_isInstance (T := "list") (b := false) ⟨_, he2, rfl⟩ sub_list_str ?_)))
  simp only [Bool.false_eq_true, if_false]
  refine wpAny_pure (wpAny_bind (wpAny_bind (wpAny_isInstance (T := "list") (b := false) ⟨_, he2, rfl⟩ sub_list_bytes ?_)))
  simp only [Bool.false_eq_true, if_false]
  refine wpAny_pure (wpAny_bind (wpAny_bind (wpAny_isInstance (T := "list") (b := false) ⟨_, he2, rfl⟩ sub_list_bytearray ?_)))
  simp only [Bool.false_eq_true, if_false]
  refine wpAny_pure (wpAny_pure ?_)
  refine wpAny_bind (wpAny_newObj_type ?_)
  have k23 : ∀ b o, h2.get? b = some o → (h2.push { cls := .type "list", data := .seq [Value.ref e].toArray }).get? b = some o := fun b o q => Heap.get?_push_of_some _ q
  have hS3 : (h2.push { cls := .type "list", data := .seq [Value.ref e].toArray }).get? h2.objs.size = some (lo [.ref e] 0) := Heap.get?_push_size _ rfl
  have ltS : ∀ b o, h2.get? b = some o → b ≠ h2.objs.size := fun b o q => Nat.ne_of_lt (Heap.lt_size q)
  obtain ⟨oI, eI, _⟩ := id hI2
  refine wpAny_pure ⟨plainId_quiet F.plain_sum_loop _, codeAny_sumL (I := s.heap.objs.size) (ax := ax) (items := items) (by exact hh) nax ls xs cn hP h2.objs.size (Ne.symm (ltS _ _ eI)) (Ne.symm (ltS _ _ (k12 _ _ eax))) items.size 0 _ e [] c0 0 (by omega) (Nat.zero_le _) (hI2.at fun o q => k23 _ _ q) (hax2.at fun o q => k23 _ _ q) hS3 (k23 _ _ he2) (ltS _ _ he2) ne (fun j _ hj => ?_) ?_ fun h' tk T' cT' hk hT' hor => ?_⟩
  · have q := hl j hj
    exact ⟨k23 _ _ (k12 _ _ q), ltS _ _ (k12 _ _ q), Nat.ne_of_lt (Heap.lt_size q)⟩
  · rw [List.drop_zero]; simpa using hz
  · rw [List.drop_zero, List.nil_append] at hT'
    refine hQ h' tk T' cT' (fun b o q => hk b o (Nat.ne_of_lt (Heap.lt_size q)) (ltS _ _ (k12 _ _ q)) (k23 _ _ (k12 _ _ q))) hT' ?_
    rcases hor with ⟨z1, z2⟩ | ⟨z1, z2⟩
    · exact .inl ⟨z1.symm, z2⟩
    · refine .inr ?_
      cases q : s.heap.get? T' with
      | none => rfl
      | some o =>
        have z3 : (h2.push { cls := .type "list", data := .seq [Value.ref e].toArray }).get? T' = none := z2
        rw [k23 _ _ (k12 _ _ q)] at z3
        cases z3
end
end SumL
end PySem
namespace Rf
open PySem PySem.Spec PyProof.Rows L2
section
variable {X : Cx} {R : Rg} {C : Nat → Addr} {W : WX} {cf : CF}
theorem lists_lay {K : Fg} {N : Addr → Prop} {pins : List (Addr × Obj)} {s : Shared} {σ : L2.St} {H Hs : Hp} (I : Inv X pins σ H s) (sb : Sub Hs H) : ∀ {ds : List D} {ls : List (List D)} {xs : List V} {its : List Value}, lists? ds = some ls → DqAll K N Hs xs ds → Vals xs its →
    ∃ (as : List Addr) (vss : List (List V)) (uss : List (List Value)) (cs : List Nat), its = as.map Value.ref ∧ as.length = uss.length ∧ (∀ (j : Nat), j < as.length → s.heap.get? (as.getD j 0) = some (SumL.lo (uss.getD j []) (cs.getD j 0))) ∧ Vals vss.flatten uss.flatten ∧ DqAll K N Hs vss.flatten ls.flatten
  | [], ls, _, _, e, h, r => by
    cases e; cases h; cases r
    exact ⟨[], [], [], [], rfl, rfl, fun j hj => absurd hj (Nat.not_lt_zero j), .nil, .nil⟩
  | .lst f x :: rst, ls, _, _, e, h, r => by
    have e : (if tracked f = true then (lists? rst).map (x :: ·) else none) = some ls := e
    split at e <;> try (cases e; done)
    rename_i hf
    obtain ⟨l, e1, e2⟩ := Option.map_eq_some_iff.mp e
    cases e2
    cases h with
    | cons h1 h2 =>
      cases r with
      | cons r1 r2 =>
        obtain ⟨as, vss, uss, cs, q1, q2, q3, q4, q5⟩ := lists_lay I sb e1 h2 r2
        cases h1 with
        | lst g1 g2 =>
          cases r1
          rename_i a vs
          obtain ⟨_, us, c, rv, ho⟩ := I.hok a _ (sb _ _ (g1.trk hf))
          refine ⟨a :: as, vs :: vss, us :: uss, c :: cs, by rw [q1]; rfl, by simp [q2], fun j hj => ?_, rv.append q4, g2.app q5⟩
          cases j with
          | zero => exact ho
          | succ j => exact q3 j (by simpa using hj)
  | .non :: _, _, _, _, e, _, _ | .bl _ :: _, _, _, _, e, _, _ | .str _ :: _, _, _, _, e, _, _ | .int _ :: _, _, _, _, e, _, _ | .tup _ :: _, _, _, _, e, _, _ | .dct :: _, _, _, _, e, _, _ | .rng _ _ :: _, _, _, _, e, _, _ => by cases e
theorem range_flat {α : Type} : ∀ (l : List (List α)), (List.range l.length).flatMap (fun j => l.getD j []) = l.flatten
  | [] => rfl
  | x :: r => by
    rw [List.length_cons, List.range_succ_eq_map, List.flatMap_cons, List.flatMap_map, List.flatten_cons]
    exact congrArg _ (range_flat r)
def rSumL (K : Fg) (N : Addr → Prop) : List V → Hp → VK → Prop := fun vs H Q => ∃ (Hs : Hp) (x : V) (e : Addr) (d : D) (ls : List D), vs = [x, .ref e] ∧ Sub Hs H ∧ DqT K N Hs H x d ∧ H e = some (.lst []) ∧ bi_sumL [d] = some (.new ls) ∧
  (ls = [] → Q (.ref e) H) ∧ ∀ vs, DqAll K N Hs vs ls → ∀ p, H p = none → Q (.ref p) (upd H p (.lst vs))
theorem cr_sumL {N : Addr → Prop} (hc : X.calm = true) : CallR X (.builtin "sum") (rSumL X.K N) := by
  intro pins s σ H vs us Q I r h
  obtain ⟨Hs, x, e, d, ls, rfl, sb, hx, he, eq, k1, k2⟩ := h
  unfold bi_sumL at eq
  split at eq <;> try (cases eq; done)
  rename_i d' f ds heq
  obtain ⟨l, e1, e2⟩ := Option.bind_eq_some_iff.mp eq
  split at e2 <;> try (cases e2; done)
  rename_i hl
  cases e2
  obtain ⟨a, xs, rfl, g1, g2⟩ : ∃ a xs, x = .ref a ∧ TopL X.K N H a xs f ∧ DqAll X.K N Hs xs ds := by cases heq; exact hx
  obtain ⟨its, rv, pl, hz⟩ := I.list g1.sql
  obtain ⟨as, vss, uss, cs, q1, q2, q3, q4, q5⟩ := lists_lay I sb e1 g2 rv
  obtain ⟨_, us0, c0, rv0, ho0⟩ := I.hok e _ he
  cases rv0
  obtain ⟨u1, u2, rfl, r1, r2⟩ := vals2 r
  cases r1; cases r2
  have hsz : its.toArray.size = as.length := by rw [q1]; simp
  have hfl : (List.range its.toArray.size).flatMap (fun j => uss.getD j []) = uss.flatten := by rw [hsz, q2]; exact range_flat uss
  refine SumL.call_sumL (I.ok.hd hc) (fun j => as.getD j 0) (fun j => uss.getD j []) (fun j => cs.getD j 0) (fun i v hv => ?_) pl.isList ho0 (fun j hj => q3 j (by rw [← hsz]; exact hj)) ?_ fun h' tk T' cT' hk hT hor => ?_
  · have hv : its[i]? = some v := by simpa using hv
    rw [q1, List.getElem?_map] at hv
    cases z : as[i]? with
    | none => rw [z] at hv; cases hv
    | some b => rw [z] at hv; cases hv; simp [z]
  · rw [hfl, ← q4.length, q5.length]; exact limS' hl
  · rw [hfl] at hT
    rcases hor with ⟨z1, rfl⟩ | z1
    · have z2 : l.flatten = [] := by
        have : uss = [] := List.length_eq_zero_iff.mp (by rw [← q2, ← hsz]; exact z1)
        have h3 := q4.length
        rw [this] at h3
        have h4 := q5.length
        rw [h3] at h4
        exact List.length_eq_zero_iff.mp h4.symm
      exact ⟨.ref _, H, I.kept hk, rfl, k1 z2⟩
    · have hn : H T' = none := by
        cases q : H T' with
        | none => rfl
        | some o =>
          have := (I.hok T' o q).lt
          obtain ⟨o', ho'⟩ : ∃ o', s.heap.get? T' = some o' := by
            have := I.hok T' o q
            cases o with
            | lst xs => obtain ⟨_, _, _, _, e⟩ := this; exact ⟨_, e⟩
            | tup xs => obtain ⟨_, _, _, p⟩ := this; obtain ⟨o, e, _⟩ := p; exact ⟨_, e⟩
            | dK kvs => obtain ⟨_, _, _, _, o, _, _, e, _⟩ := this; exact ⟨_, e⟩
            | dT kvs => obtain ⟨_, _, _, _, o, _, _, e, _⟩ := this; exact ⟨_, e⟩
            | set S n => obtain ⟨o, _, _, _, e, _⟩ := this; exact ⟨_, e⟩
            | ins C dx fs => obtain ⟨_, _, _, e, _⟩ := this; exact ⟨_, e⟩
            | own y => exact this
            | xd fs => obtain ⟨_, ⟨_, _, _, e, _⟩, _⟩ := this; exact ⟨_, e⟩
            | rng lo hi => obtain ⟨_, _, _, e⟩ := this; exact ⟨_, e⟩
            | frz ob u => obtain ⟨e, _⟩ := this; exact ⟨_, e⟩
            | tbl ps => exact ⟨_, (show s.heap.get? T' = some _ from this)⟩
            | met f y => exact ⟨_, (show s.heap.get? T' = some _ from this)⟩
            | ext φ => obtain ⟨_, e, _⟩ := this; exact e
          rw [z1] at ho'; cases ho'
      have hz2 : vss.flatten.length ≤ sizeLine := by rw [q5.length]; exact limS' hl
      have I1 : Inv X pins σ (upd H T' (.lst vss.flatten)) { s with heap := h', toks := tk } := by
        exact I.laidN hk z1 hn ⟨hz2, uss.flatten, cT', q4, hT⟩
      exact ⟨.ref T', _, I1, rfl, k2 _ q5 T' hn⟩
theorem s_sumL {a : Expr} {ea : Ex} {p pos p2 : Pos} (hc : X.calm = true) (hg : Gl X "sum") (hm : X.mg "sum" = none) (hs : NotStar a) (ha : PE X a (tE X.K R C W (ev cf ea))) :
    PE X (.Call (.Name "sum" p) [a, .List [] p2] [] pos) (tE X.K R C W (ev cf (.bi .sumL (.cons ea .nil)))) := by
  refine (pe_callB (cr_sumL (N := R.N) hc) hg hm boot_sum (pa_cons ha (pa_cons (pe_lst pa_nil) pa_nil) (star_of hs)) (by decide) (by decide) (star_of hs) rfl).mono fun σ H Q ⟨Hs, δ, wd, h⟩ => ?_
  rw [ev, evR] at h
  rw [bindA] at h
  refine tE_bind wd h fun r δ1 v Hs1 H1 p1 k1 => ?_
  obtain ⟨Hs2, w2, g2, o2, _⟩ := p1.opd
  refine ⟨Nat.zero_le _, fun e he => ?_⟩
  have k1 : Ok ((rdM r >>= fun d => retO 19 (Bi.sumL.run [d])) δ1) (fun r δ' => ∀ v Hs' H', Post X.K R σ δ Hs H δ' Hs' H' v r → Q v H') (Xc X.K R C W σ) := by
    rw [show evR cf .nil = pure [] by rw [evR], bindP, bindA] at k1
    exact k1
  obtain ⟨d, e1, k2⟩ := rdM_ok k1
  obtain ⟨o, e2, k3⟩ := retO_ok k2
  have e2 : bi_sumL [d] = some o := e2
  have ex := Ext.newO (p := e) (o := .lst []) w2.sub he
  have hd := o2.rd w2 e1
  obtain ⟨ls, rfl⟩ : ∃ ls, o = .new ls := by
    unfold bi_sumL at e2
    split at e2 <;> try (cases e2; done)
    obtain ⟨l, _, z⟩ := Option.bind_eq_some_iff.mp e2
    split at z <;> try (cases z; done)
    cases z
    exact ⟨_, rfl⟩
  have hd' : DqT X.K R.N Hs2 (upd H1 e (.lst [])) v d := by
    cases d with
    | lst f ds =>
      obtain ⟨a, xs, rfl, g1, g2⟩ := hd
      refine ⟨a, xs, rfl, ?_, g2⟩
      cases f with
      | nu => exact ⟨g1.1, ex.hh _ _ g1.2⟩
      | ol => exact ex.hh _ _ g1
      | ro => exact ex.hh.sql g1
    | _ => exact hd
  refine ⟨Hs2, v, e, d, ls, rfl, ex.sub, hd', upd_same, e2, fun z => ?_, fun vs hvs q hq => ?_⟩
  · subst z
    exact k3 _ Hs2 _ (.of_or (o := .new []) g2 w2 ex ⟨e, [], rfl, he, w2.sub.back he, upd_same, .nil⟩)
  · have ex2 := Ext.newO (p := q) (o := .lst vs) ex.sub hq
    exact k3 _ Hs2 _ (.of_or (o := .new ls) g2 w2 (ex.trans ex2) ⟨q, vs, rfl, ex.hh.back hq, ex.sub.back hq, upd_same, hvs⟩)
end
end Rf
set_option linter.all false
set_option maxRecDepth 100000
set_option maxHeartbeats 1000000
set_option Elab.async false
/-! Rf soundness, part 8: methods; len(set()); isinstance; list(). -/
namespace Rf
open PySem PySem.Spec PyProof.Rows L2
theorem find_spec {p : D → Bool} : ∀ {ds : List D} {j : Nat}, ds.findIdx? p = some j → ∃ z, ds[j]? = some z ∧ p z = true ∧ ∀ (m : Nat) (z' : D), m < j → ds[m]? = some z' → p z' = false := by
  intro ds j h
  obtain ⟨h1, h2, h3⟩ := List.findIdx?_eq_some_iff_getElem.mp h
  refine ⟨ds[j], List.getElem?_eq_getElem h1, h2, fun m z' hm hz => ?_⟩
  obtain ⟨hm', rfl⟩ := List.getElem?_eq_some_iff.mp hz
  have := h3 m hm
  simpa using this
section
variable {X : Cx} {N : Addr → Prop}
theorem pys_get {ds : List D} {j : Nat} : (D.pys ds)[j]? = (ds[j]?).map D.py := by rw [pys_map, List.getElem?_map]
theorem m_index (hu : X.A.units + 66 < cLine) : MtR X "list.index" (rMt X.K N me_index) := by
  intro pins s σ H x vs v us Q I rx r h
  obtain ⟨Hs, d, ds, o, sb, hx, hd, e, k⟩ := h
  cases d with
  | lst f xs =>
    unfold me_index at e
    split at e <;> try (cases e; done)
    · rename_i f' xs' y heq
      cases heq
      split at e <;> try (cases e; done)
      rename_i hc
      simp only [Bool.and_eq_true] at hc
      obtain ⟨j, e1, e2⟩ := Option.map_eq_some_iff.mp e
      cases e2
      obtain ⟨w, rfl, hw⟩ := hd.one
      obtain ⟨z, z1, z2, z3⟩ := find_spec e1
      have hdp := hx.dp sb hc.2
      obtain ⟨a, xv, rfl, g1, g2⟩ := id hx
      refine mt_indexD (by omega) pins s σ H _ _ v us Q I rx r ⟨a, w, y.py, D.pys xs, j, z.py, rfl, rfl, hdp, hw.dp sb hc.1, okE_shaped hc.2, okE_shaped hc.1, by rw [pys_get, z1]; rfl, z2, fun m z' hm hz => ?_, k _ _ _ (.refl sb) (.int _)⟩
      rw [pys_get] at hz
      obtain ⟨z0, q1, q2⟩ := Option.map_eq_some_iff.mp hz
      rw [← q2]
      exact z3 m z0 hm q1
  | _ => cases e
theorem m_count (hu : X.A.units + 66 < cLine) : MtR X "list.count" (rMt X.K N me_count) := by
  intro pins s σ H x vs v us Q I rx r h
  obtain ⟨Hs, d, ds, o, sb, hx, hd, e, k⟩ := h
  cases d with
  | lst f xs =>
    unfold me_count at e
    split at e <;> try (cases e; done)
    rename_i f' xs' y heq
    cases heq
    split at e <;> try (cases e; done)
    rename_i hc
    simp only [Bool.and_eq_true] at hc
    cases e
    obtain ⟨w, rfl, hw⟩ := hd.one
    obtain ⟨a, xv, rfl, g1, g2⟩ := id hx
    obtain ⟨its, rv, ⟨⟨cls, dd, data, sls⟩, n, ho, hcl, hdn, hdt⟩, hlen⟩ := I.list g1.sql
    simp only at hcl hdt
    subst hcl hdt
    cases rx
    cases r with
    | cons ry rt =>
      rename_i uy ut
      cases rt
      obtain ⟨bs, r1⟩ := Dp.reads I _ w uy (hw.dp sb hc.1) ry
      have hdep : D.deps xs ≤ 50 := by have := okE_dep hc.2; unfold D.dep at this; omega
      obtain ⟨as, h4⟩ := Dp.readsAll I _ _ its (g2.reads sb (by omega)) rv
      have hlay := (depths_py xs (by omega)).2
      have hmap : its.map (SeqAt.readOf s.heap) = D.pys xs := SeqAt.readsAll_map _ its as hlay h4
      refine call_meets PySem.F.slot_list_count ⟨_, ho, rfl⟩ PySem.F.entry_list_count (PySem.F.args_list_count_2 _ _) (SeqAt.list_countAt a its.toArray n dd sls uy (fun u => PyData.eqv (SeqAt.readOf s.heap u) y.py))
        ⟨ho, SeqAt.items_eqAt (vs := its.toArray) (show ReadsAll s.heap its.toArray.toList (D.pys xs) as from h4) r1 hlay (SeqAt.canLay_of_shaped (okE_shaped hc.1)) (room_in (SeqAt.depth_of_shaped (okE_shaped hc.1)) hu), ?_⟩
      have hcnt : its.toArray.toList.countP (fun u => PyData.eqv (SeqAt.readOf s.heap u) y.py) = xs.countP fun z => z.eqv y := by
        have h1 : (D.pys xs).countP (fun z => PyData.eqv z y.py) = xs.countP fun z => z.eqv y := by rw [pys_map, List.countP_map]; rfl
        rw [← h1, ← hmap, List.countP_map]; rfl
      rw [hcnt]
      exact ⟨.int _, H, I.tok _, ⟨_, rfl⟩, k _ _ _ (.refl sb) (.int _)⟩
  | _ => cases e
theorem few1 {cpos : Pos} {e : Expr} {env : Env} (hs : NotStar e) : ((backTo cpos (starEach [e] env)).all (fun x => !x.1) && (backToKw cpos (keywordEach [] env)).all (fun x => x.1.isSome)
      && decide (([e] : List Expr).length + ([] : List Keyword).length + (if ([] : List Keyword).isEmpty then 0 else 1) < 30)) = true := by
  rw [star_of hs]; rfl
theorem DqT.keep {K : Fg} {Hs H Hs' H' : Hp} {v : V} {d : D} (hs : Sub Hs Hs') (hh : Sub H H') (h : DqT K N Hs H v d) : DqT K N Hs' H' v d := by
  cases d with
  | lst f ds =>
    obtain ⟨a, xs, rfl, g1, g2⟩ := h
    refine ⟨a, xs, rfl, ?_, g2.mono hs⟩
    cases f with
    | nu => exact ⟨g1.1, hh _ _ g1.2⟩
    | ol => exact hh _ _ g1
    | ro => exact hh.sql g1
  | _ => exact Dq.mono hs h
theorem evR1 {cf : CF} {α : Type} {ea : Ex} {F : List D → M α} : (evR cf (.cons ea .nil) >>= F) = (ev cf ea >>= fun r2 => rdM r2 >>= fun d2 => F [d2]) := by
  rw [evR, bindA]
  refine congrArg _ (funext fun r => ?_)
  rw [show evR cf .nil = pure [] by rw [evR], bindP, bindA]
  rfl
theorem mt_go {R : Rg} {C : Nat → Addr} {W : WX} {cf : CF} {m : Mt} {eo ea : Ex} {σ : L2.St} {H : Hp} {Q : VK} (h : tE X.K R C W (ev cf (.mt m eo (.cons ea .nil))) σ H Q) :
    tE X.K R C W (ev cf eo) σ H fun x H1 => (∃ (Hs : Hp) (d0 : D), Sub Hs H1 ∧ DqT X.K R.N Hs H1 x d0 ∧ m.recv d0 = true) ∧ tE X.K R C W (ev cf ea) σ H1 fun y H2 => rMt X.K R.N m.run x [y] H2 Q := by
  obtain ⟨Hs, δ, wd, h⟩ := h
  rw [ev] at h
  refine tE_bind wd h fun r δ1 v Hs1 H1 p1 k1 => ?_
  obtain ⟨Hs2, w2, g2, o2, _⟩ := p1.opd
  obtain ⟨d0, e0, k2⟩ := rdM_ok k1
  by_cases c : m.recv d0 = true
  · rw [if_pos c] at k2
    refine ⟨⟨Hs2, d0, w2.sub, o2.rd w2 e0, c⟩, ?_⟩
    have k3 : Ok ((ev cf ea >>= fun r2 => rdM r2 >>= fun d2 => rdM r >>= fun d => retO 20 (m.run d [d2])) δ1) (fun r δ' => ∀ v Hs' H', Post X.K R σ δ Hs H δ' Hs' H' v r → Q v H') (Xc X.K R C W σ) := by
      rw [evR1] at k2
      exact k2
    refine tE_bind w2 k3 fun r2 δ3 y Hs3 H3 p3 k4 => ?_
    obtain ⟨Hs4, w4, g4, o4, _⟩ := p3.opd
    obtain ⟨d2, e2, k5⟩ := rdM_ok k4
    obtain ⟨d, e3, k6⟩ := rdM_ok k5
    obtain ⟨o, e4, k7⟩ := retO_ok k6
    exact ⟨Hs4, d, [d2], o, w4.sub, (o2.mono g4.hs).rd w4 e3, .cons (o4.rd w4 e2) .nil, e4, fun v Hs' H' ex ok => k7 v Hs' H' (.of_or (g2.trans g4) w4 ex ok)⟩
  · rw [if_neg c] at k2; exact k2.elim
/-- a list's method of one argument that only reads -/
theorem s_mtL {R : Rg} {C : Nat → Addr} {W : WX} {cf : CF} {name : Str} {id : String} {m : Mt} {o e : Expr} {eo ea : Ex} {apos cpos : Pos} (slot : Slot "list" name id) (hty : typeOf (.builtin id) = pure (.type "method_descriptor"))
    (hm : MtR X id (rMt X.K R.N m.run)) (hl : ∀ d, m.recv d = true → ∃ f xs, d = .lst f xs)
    (hb : attributeBase o name X.env (eval o X.env) = eval o X.env) (hline : (apos.endLine == cpos.line) = true) (hs : NotStar e) (ho : PE X o (tE X.K R C W (ev cf eo))) (ha : PE X e (tE X.K R C W (ev cf ea))) :
    PE X (.Call (.Attribute o name apos) [e] [] cpos) (tE X.K R C W (ev cf (.mt m eo (.cons ea .nil)))) := by
  refine (pe_bm PySem.F.plainAttrs_list slot hty hm ho (pa_cons ha pa_nil (star_of hs)) hb (few1 hs) hline (star_of hs) rfl).mono fun σ H Q h => ?_
  refine tE_mono (mt_go h) fun x H1 ⟨⟨Hs, d0, sb, hd, c⟩, q⟩ => ⟨?_, q⟩
  obtain ⟨f, xs, rfl⟩ := hl d0 c
  obtain ⟨a, ys, rfl, g1, _⟩ := hd
  exact .inl ⟨rfl, ys, g1.sql⟩
theorem s_bits {R : Rg} {C : Nat → Addr} {W : WX} {cf : CF} {o : Expr} {eo : Ex} {apos pos : Pos} (hb : attributeBase o "bit_length" X.env (eval o X.env) = eval o X.env) (hline : (apos.endLine == pos.line) = true) (ho : PE X o (tE X.K R C W (ev cf eo))) :
    PE X (.Call (.Attribute o "bit_length" apos) [] [] pos) (tE X.K R C W (ev cf (.mt .bitlen eo .nil))) := by
  refine (pe_bits ho hb hline).mono fun σ H Q ⟨Hs, δ, wd, h⟩ => ?_
  rw [ev] at h
  refine tE_bind wd h fun r δ1 v Hs1 H1 p1 k1 => ?_
  obtain ⟨Hs2, w2, g2, o2, _⟩ := p1.opd
  obtain ⟨d0, e0, k2⟩ := rdM_ok k1
  have hd := o2.rd w2 e0
  cases d0 with
  | int i =>
    rw [if_pos (show Mt.bitlen.recv (.int i) = true from rfl), evR, bindP] at k2
    obtain ⟨d1, e1, k3⟩ := rdM_ok k2
    rw [e0] at e1; cases e1
    cases hd
    exact ⟨i, rfl, k3 _ Hs2 H1 (.of_val g2 w2 (.int _))⟩
  | _ => exact k2.elim
end
end Rf
set_option linter.all false
set_option maxRecDepth 100000
set_option maxHeartbeats 1000000
set_option Elab.async false
/-! Rf soundness, part 9: isinstance; len(set()); list(); reversed slices; sorted. -/
namespace Rf
open PySem PySem.Spec PyProof.Rows L2
def Ty.name : Ty → String
  | .int => "int" | .bool => "bool" | .list => "list" | .tuple => "tuple" | .str => "str"
def D.tyName : D → String
  | .non => "NoneType" | .bl _ => "bool" | .int _ => "int" | .str _ => "str" | .lst _ _ => "list" | .tup _ => "tuple" | .dct => "dict" | .rng _ _ => "range"
theorem kit_all : ∀ (t : Ty) (d : D), d.isRng = false → kitB d.tyName t.name = some (t.has d) := by
  intro t d h
  cases t <;> cases d <;> first | (simp [D.isRng] at h; done) | (dsimp only [D.tyName, Ty.name]; show kitB _ _ = some true; decide +kernel) | (dsimp only [D.tyName, Ty.name]; show kitB _ _ = some false; decide +kernel)
theorem SqL.tyx {K : Fg} {H : Hp} {a : Addr} {xs : List V} (h : SqL K H a xs) : TyX K H (.ref a) (.type "list") := by
  rcases h with h | ⟨o, its, n, h1, h2, _⟩
  · rcases h with h | ⟨o, h⟩
    · exact .base (.lst h)
    · exact .base (.frz h)
  · exact .kList h1 h2
theorem SqT.tyx {K : Fg} {H : Hp} {a : Addr} {xs : List V} (h : SqT K H a xs) : TyX K H (.ref a) (.type "tuple") := by
  rcases h with h | ⟨o, its, n, h1, h2, _⟩
  · rcases h with h | ⟨o, h⟩
    · exact .base (.tup h)
    · exact .fTuple h
  · exact .kTuple h1 h2
theorem DqT.tyx {K : Fg} {N : Addr → Prop} {Hs H : Hp} {v : V} {d : D} (s : Sub Hs H) (h : DqT K N Hs H v d) (hr : d.isRng = false) : TyX K H v (.type d.tyName) := by
  cases d with
  | non => cases h; exact .base .non
  | bl b => cases h; exact .base (.bl b)
  | int i => cases h; exact .base (.int i)
  | str x => cases h; exact .base (.str x)
  | lst f ds => obtain ⟨a, xs, rfl, h1, h2⟩ := h; exact SqL.tyx h1.sql
  | tup ds => cases h with | tup h1 h2 => exact SqT.tyx (s.sqt h1)
  | dct => cases h with | dct h => exact .base (.dK (s _ _ h))
  | rng a b => cases hr
theorem kit_any {K : Fg} {d : D} (hr : d.isRng = false) : ∀ (ts : List Ty), PySem.W.kitAny K (.type d.tyName) (ts.map fun t => Value.type t.name) = some (ts.any fun t => t.has d)
  | [] => rfl
  | t :: ts => by
    refine kitAny_cons (kit_ty (kit_all t d hr)) (fun e => ?_) (fun e => ?_)
    · rw [List.any_cons, e, Bool.false_or]; exact kit_any hr ts
    · rw [List.any_cons, e, Bool.true_or]
def tTys (ts : List Ty) : TA := fun σ H Q => Q (ts.map fun t => V.ty t.name) H
theorem paired_tys : ∀ (ts : List Ty), Paired ClsV (ts.map fun t => V.ty t.name) (ts.map fun t => Value.type t.name)
  | [] => .nil
  | t :: ts => .cons (.ty _) (paired_tys ts)
theorem boot_ty (t : Ty) : bootBuiltins (Str.ofString t.name) = some (.type t.name) := by cases t <;> decide +kernel
section
variable {X : Cx} {R : Rg} {C : Nat → Addr} {W : WX} {cf : CF}
theorem pe_ty {t : Ty} {x : Str} {p : Pos} (hx : x = Str.ofString t.name) (hg : Gl X x) (hm : X.mg x = none) : PE X (.Name x p) (tC (.ty t.name)) := by
  subst hx
  refine pe_bltn hg hm (boot_ty t) rfl ?_ ?_
  · cases t <;> decide
  · cases t <;> decide
theorem tys_nil : PA X [] (tTys []) := pa_nil
theorem tys_cons {t : Ty} {ts : List Ty} {e : Expr} {es : List Expr} (hs : NotStar e) (he : PE X e (tC (.ty t.name))) (h : PA X es (tTys ts)) : PA X (e :: es) (tTys (t :: ts)) :=
  (pa_cons he h (star_of hs)).mono fun σ H Q q => q
theorem s_isi1 {t : Ty} {e : Expr} {x : Str} {ea : Ex} {p p2 pos : Pos} (hg : Gl X "isinstance") (hm : X.mg "isinstance" = none) (hx : x = Str.ofString t.name) (hg2 : Gl X x) (hm2 : X.mg x = none) (hs : NotStar e) (ha : PE X e (tE X.K R C W (ev cf ea))) :
    PE X (.Call (.Name "isinstance" p) [e, .Name x p2] [] pos) (tE X.K R C W (ev cf (.isi [t] ea))) := by
  refine (pe_callB call_isi hg hm boot_isinstance (pa_cons ha (pa_cons (pe_ty hx hg2 hm2) pa_nil) (star_of hs)) (by decide) (by decide) (star_of hs) rfl).mono fun σ H Q ⟨Hs, δ, wd, h⟩ => ?_
  rw [ev] at h
  refine tE_bind wd h fun r δ1 v Hs1 H1 p1 k1 => ?_
  obtain ⟨Hs2, w2, g2, o2, _⟩ := p1.opd
  obtain ⟨d, e1, k2⟩ := rdM_ok k1
  have hd := o2.rd w2 e1
  cases hr : d.isRng with
  | true => rw [hr] at k2; exact k2.elim
  | false =>
    rw [hr] at k2
    refine ⟨v, .ty t.name, _, _, t.has d, rfl, .ty _, hd.tyx w2.sub hr, kit_ty (kit_all t d hr), ?_⟩
    have k2 : Ok ((pure (.fz (.bl ([t].any fun t => t.has d))) : M Rs) δ1) (fun r δ' => ∀ v Hs' H', Post X.K R σ δ Hs H δ' Hs' H' v r → Q v H') (Xc X.K R C W σ) := k2
    rw [List.any_cons, List.any_nil, Bool.or_false] at k2
    exact k2 _ Hs2 H1 (.of_val g2 w2 (.bl _))
theorem s_isiT {ts : List Ty} {e : Expr} {es : List Expr} {ea : Ex} {p p2 pos : Pos} {n : Nat} (hl : ts.length ≤ lim) (hg : Gl X "isinstance") (hm : X.mg "isinstance" = none) (hes : PA X es (tTys ts)) (hs : NotStar e) (ha : PE X e (tE X.K R C W (ev cf ea))) :
    PE X (.Call (.Name "isinstance" p) [e, .Tuple es n p2] [] pos) (tE X.K R C W (ev cf (.isi ts ea))) := by
  refine (pe_callB call_isiT hg hm boot_isinstance (pa_cons ha (pa_cons (pe_tup hes) pa_nil) (star_of hs)) (by decide) (by decide) (star_of hs) rfl).mono fun σ H Q ⟨Hs, δ, wd, h⟩ => ?_
  rw [ev] at h
  refine tE_bind wd h fun r δ1 v Hs1 H1 p1 k1 => ?_
  obtain ⟨Hs2, w2, g2, o2, _⟩ := p1.opd
  obtain ⟨d, e1, k2⟩ := rdM_ok k1
  have hd := o2.rd w2 e1
  refine ⟨by rw [List.length_map]; exact limS' hl, fun tp htp => ?_⟩
  cases hr : d.isRng with
  | true => rw [hr] at k2; exact k2.elim
  | false =>
    rw [hr] at k2
    have ex := Ext.newS (p := tp) (o := .tup (ts.map fun t => V.ty t.name)) w2.sub htp
    refine ⟨v, tp, _, _, _, ts.any fun t => t.has d, rfl, upd_same, paired_tys ts, (hd.keep ex.hs ex.hh).tyx ex.sub hr, kit_any hr ts, ?_⟩
    exact k2 _ _ _ (.of_val (g2.trans ex.go) (w2.ext ex) (.bl _))
/-! list(x) -/
theorem s_lcp {e : Expr} {ea : Ex} {p pos : Pos} (hg : Gl X "list") (hm : X.mg "list" = none) (hs : NotStar e) (ha : PE X e (tE X.K R C W (ev cf ea))) : PE X (.Call (.Name "list" p) [e] [] pos) (tE X.K R C W (ev cf (.lcp ea))) := by
  refine (pe_callTy call_list_of hg hm boot_list (pa_cons ha pa_nil (star_of hs)) (by decide) (by decide) (star_of hs) rfl).mono fun σ H Q ⟨Hs, δ, wd, h⟩ => ?_
  rw [ev] at h
  refine tE_bind wd h fun r δ1 v Hs1 H1 p1 k1 => ?_
  obtain ⟨Hs2, w2, g2, o2, _⟩ := p1.opd
  obtain ⟨d, e1, k2⟩ := rdM_ok k1
  have hd := o2.rd w2 e1
  cases d with
  | lst f ds =>
    obtain ⟨a, xs, rfl, h1, h2⟩ := hd
    exact ⟨a, xs, rfl, .inl h1.sql, fun l hl => k2 _ Hs2 _ (.of_or (o := .new ds) g2 w2 (.newO w2.sub hl) ⟨l, xs, rfl, hl, w2.sub.back hl, upd_same, h2⟩)⟩
  | tup ds =>
    cases hd with
    | tup h1 h2 => exact ⟨_, _, rfl, .inr (w2.sub.sqt h1), fun l hl => k2 _ Hs2 _ (.of_or (o := .new ds) g2 w2 (.newO w2.sub hl) ⟨l, _, rfl, hl, w2.sub.back hl, upd_same, h2⟩)⟩
  | _ => exact k2.elim
theorem ranged_all {K : Fg} {N : Addr → Prop} {Hs : Hp} (a b : Int) : DqAll K N Hs (rgV a b) (ranged a b) := by
  unfold rgV ranged
  have e1 : (List.range (b - a).toNat).map (fun i : Nat => V.int (a + i)) = ((List.range (b - a).toNat).map fun i : Nat => a + (i : Int)).map V.int := by rw [List.map_map]; rfl
  have e2 : (List.range (b - a).toNat).map (fun i : Nat => D.int (a + i)) = ((List.range (b - a).toNat).map fun i : Nat => a + (i : Int)).map D.int := by rw [List.map_map]; rfl
  rw [e1, e2]
  exact DqAll.of_ints _
theorem ranged_len (a b : Int) : (ranged a b).length = (b - a).toNat := by unfold ranged; rw [List.length_map, List.length_range]
theorem small_iff {i : Int} (h : small i = true) : -(2 ^ 62) ≤ i ∧ i < 2 ^ 62 := by
  unfold small at h
  simpa only [Bool.and_eq_true, decide_eq_true_eq] using h
theorem s_lof1 {e : Expr} {ea : Ex} {p p2 pos pos2 : Pos} (hc : X.calm = true) (hg : Gl X "list") (hm : X.mg "list" = none) (hg2 : Gl X "range") (hm2 : X.mg "range" = none) (hs : NotStar e) (ha : PE X e (tE X.K R C W (ev cf ea))) :
    PE X (.Call (.Name "list" p) [.Call (.Name "range" p2) [e] [] pos2] [] pos) (tE X.K R C W (ev cf (.lof (.rng1 ea)))) := by
  refine (pe_listRg hc hg hm (prg_1 hg2 hm2 ha (star_of hs))).mono fun σ H Q ⟨Hs, δ, wd, h⟩ => ?_
  rw [ev, evI, bindA] at h
  refine tE_bind wd h fun r δ1 v Hs1 H1 p1 k1 => ?_
  obtain ⟨Hs2, w2, g2, o2, _⟩ := p1.opd
  rw [bindA] at k1
  obtain ⟨d, e1, k2⟩ := rdM_ok k1
  have hd := o2.rd w2 e1
  cases d with
  | int i =>
    cases hd
    simp only at k2
    cases c : small i with
    | false => rw [c] at k2; exact k2.elim
    | true =>
      rw [c] at k2
      have k2 : Ok ((if (ranged 0 i).length ≤ lim then pure (.nw (ranged 0 i)) else fail 28 : M Rs) δ1) (fun r δ' => ∀ v Hs' H', Post X.K R σ δ Hs H δ' Hs' H' v r → Q v H') (Xc X.K R C W σ) := k2
      split at k2
      · rename_i hl
        obtain ⟨s1, s2⟩ := small_iff c
        rw [ranged_len] at hl
        refine ⟨i, rfl, ⟨by omega, by omega, s1, s2, Nat.le_trans hl (by decide)⟩, fun q hq => ?_⟩
        exact k2 _ Hs2 _ (.of_or (o := .new (ranged 0 i)) g2 w2 (.newO w2.sub hq) ⟨q, _, rfl, hq, w2.sub.back hq, upd_same, ranged_all 0 i⟩)
      · exact k2.elim
  | _ => exact k2.elim
theorem s_lof2 {e e' : Expr} {ea eb : Ex} {p p2 pos pos2 : Pos} (hc : X.calm = true) (hg : Gl X "list") (hm : X.mg "list" = none) (hg2 : Gl X "range") (hm2 : X.mg "range" = none) (hs : NotStar e) (hs' : NotStar e') (ha : PE X e (tE X.K R C W (ev cf ea))) (hb : PE X e' (tE X.K R C W (ev cf eb))) :
    PE X (.Call (.Name "list" p) [.Call (.Name "range" p2) [e, e'] [] pos2] [] pos) (tE X.K R C W (ev cf (.lof (.rng2 ea eb)))) := by
  refine (pe_listRg hc hg hm (prg_2 hg2 hm2 ha hb (star_of hs) (star_of hs') (by rw [star_of hs']; rfl))).mono fun σ H Q ⟨Hs, δ, wd, h⟩ => ?_
  rw [ev, evI] at h
  have h : Ok ((do let ra ← ev cf ea; let rb ← ev cf eb; let da ← rdM ra; let db ← rdM rb; (match da, db with
    | .int i, .int j => if small i && small j then pure (ranged i j, none) else fail 25
    | _, _ => fail 26 : M (List D × Option (Nat × List D))) >>= fun (xs, _) => if xs.length ≤ lim then pure (.nw xs) else fail 28 : M Rs) δ) (fun r δ' => ∀ v Hs' H', Post X.K R σ δ Hs H δ' Hs' H' v r → Q v H') (Xc X.K R C W σ) := by
    simp only [bindA] at h ⊢
    exact h
  have z := two wd h (Q := fun x y H2 => ∃ i j, x = .int i ∧ y = .int j ∧ (RgOk i j ∧ ∀ q, H2 q = none → Q (.ref q) (upd H2 q (.lst (rgV i j))))) fun x y da db δ2 Hs2 H2 w2 g2 h1 h2 k => ?_
  · exact z
  · cases da with
    | int i =>
      cases db with
      | int j =>
        cases h1; cases h2
        simp only at k
        cases c : small i && small j with
        | false => rw [c] at k; exact k.elim
        | true =>
          rw [c] at k
          simp only [Bool.and_eq_true] at c
          have k : Ok ((if (ranged i j).length ≤ lim then pure (.nw (ranged i j)) else fail 28 : M Rs) δ2) (fun r δ' => ∀ v Hs' H', Post X.K R σ δ Hs H δ' Hs' H' v r → Q v H') (Xc X.K R C W σ) := k
          split at k
          · rename_i hl
            obtain ⟨s1, s2⟩ := small_iff c.1
            obtain ⟨s3, s4⟩ := small_iff c.2
            rw [ranged_len] at hl
            refine ⟨i, j, rfl, rfl, ⟨s1, s2, s3, s4, Nat.le_trans hl (by decide)⟩, fun q hq => ?_⟩
            exact k _ Hs2 _ (.of_or (o := .new (ranged i j)) g2 w2 (.newO w2.sub hq) ⟨q, _, rfl, hq, w2.sub.back hq, upd_same, ranged_all i j⟩)
          · exact k.elim
      | _ => exact k.elim
    | _ => exact k.elim
theorem s_rev {e : Expr} {ea : Ex} {k : Nat} {p1 p2 p3 pos : Pos} (ha : PE X e (tE X.K R C W (ev cf ea))) : PE X (.Subscript e (.Slice none none (some (.UnaryOp .USub (.Constant (.int 1) k p1) p2)) p3) pos) (tE X.K R C W (ev cf (.rev ea))) := by
  refine (pe_revL ha).mono fun σ H Q ⟨Hs, δ, wd, h⟩ => ?_
  rw [ev] at h
  refine tE_bind wd h fun r δ1 v Hs1 H1 p1 k1 => ?_
  obtain ⟨Hs2, w2, g2, o2, _⟩ := p1.opd
  obtain ⟨d, e1, k2⟩ := rdM_ok k1
  have hd := o2.rd w2 e1
  cases d with
  | lst f ds =>
    obtain ⟨a, xs, rfl, h1, h2⟩ := hd
    exact ⟨a, xs, rfl, h1.sql, fun q hq => k2 _ Hs2 _ (.of_or (o := .new ds.reverse) g2 w2 (.newO w2.sub hq) ⟨q, _, rfl, hq, w2.sub.back hq, upd_same, h2.rev⟩)⟩
  | _ => exact k2.elim
end
end Rf
set_option linter.all false
set_option maxRecDepth 100000
set_option maxHeartbeats 1000000
set_option Elab.async false
/-! Rf soundness, part 10: and, or as tests; len(set()); sorted; writing to an owned list. -/
namespace Rf
open PySem PySem.Spec PyProof.Rows L2
theorem Ok.bindE {α β : Type} {m : M α} {f : α → M β} {δ : Envr} {g : β → Envr → Prop} {e : Nat → D → Envr → Prop} (h : Ok (m δ) (fun a δ1 => Ok (f a δ1) g e) e) : Ok ((m >>= f) δ) g e := by
  show Ok (M.bind m f δ) g e
  unfold M.bind
  unfold Ok at h
  cases q : m δ with
  | ok a δ1 => rw [q] at h; exact h
  | exn c d δ1 => rw [q] at h; exact h
  | bad n => rw [q] at h; exact h
section
variable {X : Cx} {R : Rg} {C : Nat → Addr} {W : WX} {cf : CF}
/-- what is handed on for keeping, whatever its value -/
theorem esc_wd {α : Type} {r : Rs} {k : D → M α} {σ : L2.St} {δ : Envr} {Hs H : Hp} {g : α → Envr → Prop} {e : Nat → D → Envr → Prop} {d0 : D} (wd : Wd X.K R σ δ Hs H) (hr : rd δ r = some d0) (h : Ok ((esc r >>= k) δ) g e) :
    ∃ δ' Hs', Wd X.K R σ δ' Hs' H ∧ Go σ δ Hs H δ' Hs' H ∧ Ok (k d0 δ') g e := by
  have h := h.bindI
  cases r with
  | fz d => cases hr; exact ⟨δ, Hs, wd, .refl, h⟩
  | nw ds => cases hr; exact ⟨δ, Hs, wd, .refl, h⟩
  | sl i =>
    unfold esc at h
    unfold rd at hr
    cases q : δ[i]? with
    | none => simp only [q] at h; exact h.elim
    | some s =>
      cases s with
      | un => simp only [q] at h; exact h.elim
      | sh d =>
        simp only [q] at h hr
        cases hr
        exact ⟨δ, Hs, wd, .refl, h⟩
      | ow ds =>
        simp only [q] at h hr
        cases hr
        obtain ⟨a, vs, h1, h2, h3, h4, w', g'⟩ := wd.freeze q
        exact ⟨_, _, w', g', h⟩
theorem w_bop1 {k : Bool} {a : Expr} {ea : Ex} {pos : Pos} (ha : PT X a (tT X.K R C W (ev cf ea >>= truM))) : PW X (.BoolOp (bopy k) [a] pos) (tT X.K R C W (evB cf k (.cons ea .nil) >>= truM)) := by
  have e : evB cf k (.cons ea .nil) = ev cf ea := by rw [evB]
  rw [e]
  cases k with
  | true => exact pw_and1 ha
  | false => exact pw_or1 ha
theorem w_bop {k : Bool} {a b : Expr} {rest : List Expr} {ea eb : Ex} {es : Exs} {pos : Pos} (ha : PT X a (tT X.K R C W (ev cf ea >>= truM))) (hb : PW X (.BoolOp (bopy k) (b :: rest) pos) (tT X.K R C W (evB cf k (.cons eb es) >>= truM))) :
    PW X (.BoolOp (bopy k) (a :: b :: rest) pos) (tT X.K R C W (evB cf k (.cons ea (.cons eb es)) >>= truM)) := by
  have key : ∀ (σ : L2.St) (H : Hp) (Q : Bool → Hp → Prop), tT X.K R C W (evB cf k (.cons ea (.cons eb es)) >>= truM) σ H Q → tT X.K R C W (ev cf ea >>= truM) σ H fun t H1 => if t = k then tT X.K R C W (evB cf k (.cons eb es) >>= truM) σ H1 Q else Q (!k) H1 := by
    intro σ H Q ⟨Hs, δ, wd, h⟩
    rw [evB] at h
    · rw [bindA] at h
      refine ⟨Hs, δ, wd, .bindE (h.bindI.imp (fun r δ1 hr => ?_) fun _ _ _ x => x)⟩
      rw [bindA] at hr
      obtain ⟨d, t, e1, e2, k2⟩ := truM_ok hr
      have et : truM r δ1 = .ok t δ1 := by unfold truM; rw [e1]; simp only [e2]
      rw [et]
      intro Hs1 H1 w1 g1
      by_cases c : t = k
      · rw [if_pos c]
        rw [if_pos (by simpa using c)] at k2
        exact tT_from w1 g1 k2
      · rw [if_neg c]
        rw [if_neg (by simpa using c), bindA] at k2
        obtain ⟨δ2, Hs2, w2, g2, k3⟩ := esc_wd w1 e1 k2
        have k3 : Ok (truM (.fz d) δ2) (fun b δ' => ∀ Hs' H', Wd X.K R σ δ' Hs' H' → Go σ δ Hs H δ' Hs' H' → Q b H') (Xc X.K R C W σ) := k3
        unfold truM at k3
        simp only [rd, e2] at k3
        have hk : (!k) = t := by cases k <;> cases t <;> simp_all
        rw [hk]
        exact k3 Hs2 H1 w2 (g1.trans g2)
    · intro z; cases z
  cases k with
  | true =>
    refine (pw_and ha hb).mono fun σ H Q h => ?_
    obtain ⟨Hs, δ, wd, z⟩ := key σ H Q h
    refine ⟨Hs, δ, wd, z.imp (fun t δ1 q Hs' H' w g => ?_) fun _ _ _ x => x⟩
    have q := q Hs' H' w g
    cases t <;> exact q
  | false =>
    refine (pw_or ha hb).mono fun σ H Q h => ?_
    obtain ⟨Hs, δ, wd, z⟩ := key σ H Q h
    refine ⟨Hs, δ, wd, z.imp (fun t δ1 q Hs' H' w g => ?_) fun _ _ _ x => x⟩
    have q := q Hs' H' w g
    cases t <;> exact q
/-! len(set(ints)) -/
theorem range_getD : ∀ (ns : List Int), (List.range ns.length).map (fun i => ns.getD i 0) = ns
  | [] => rfl
  | n :: ns => by
    rw [List.length_cons, List.range_succ_eq_map, List.map_cons, List.map_map]
    exact congrArg (n :: ·) (range_getD ns)
theorem s_lenset {e : Expr} {ea : Ex} {p p2 q pos : Pos} (hc : X.calm = true) (hg : Gl X "len") (hm : X.mg "len" = none) (hg2 : Gl X "set") (hm2 : X.mg "set" = none) (hs : NotStar e) (ha : PE X e (tE X.K R C W (ev cf ea))) :
    PE X (.Call (.Name "len" p) [.Call (.Name "set" p2) [e] [] q] [] pos) (tE X.K R C W (ev cf (.bi .lenset (.cons ea .nil)))) := by
  refine ⟨fun pins s σ H Q I ⟨Hs, δ, wd, h⟩ => ?_⟩
  refine Call_ (ld_blt I hg hm boot_len ?_)
  refine PyProof.Rows.callWith_builtin1 (PyProof.Rows.args_cons ?_ rfl) rfl rfl
  refine Call_ (ld_blt I hg2 hm2 boot_set ?_)
  rw [ev, evR1] at h
  have z : tE X.K R C W (ev cf ea) σ H fun x H1 => ∃ (l : Addr) (ns : List Int), x = .ref l ∧ SqL X.K H1 l (ns.map V.int) ∧ ns.length ≤ 4000 ∧ Q (.int ((ns.foldl PyProof.Rows.step_dedup []).length : Nat)) H1 := by
    refine tE_bind wd h fun r δ1 v Hs1 H1 p1 k1 => ?_
    obtain ⟨Hs2, w2, g2, o2, _⟩ := p1.opd
    obtain ⟨d, e1, k2⟩ := rdM_ok k1
    obtain ⟨o, e2, k3⟩ := retO_ok k2
    change bi_lenset [d] = some o at e2
    have hd := o2.rd w2 e1
    unfold bi_lenset at e2
    split at e2 <;> try (cases e2; done)
    rename_i f xs heq
    cases heq
    split at e2 <;> try (cases e2; done)
    rename_i hl
    obtain ⟨ns, q1, q2⟩ := Option.map_eq_some_iff.mp e2
    cases q2
    obtain ⟨a, vs, rfl, h1, h2⟩ := hd
    have hx := ints?_map q1
    subst hx
    have hv := h2.ints
    subst hv
    rw [List.length_map] at hl
    exact ⟨a, ns, rfl, h1.sql, hl, k3 _ Hs2 H1 (.of_val g2 w2 (.int _))⟩
  refine PyProof.Rows.callWith_type1 (PyProof.Rows.args_cons (thn (ha.run pins s σ H _ I z) fun v s1 ⟨x, H1, I1, r1, q1⟩ => PyProof.Rows.args_nil ?_) (star_of hs)) (star_of hs) rfl
  obtain ⟨l, ns, rfl, hq, hl, q1⟩ := q1
  cases r1
  obtain ⟨its, r, pl, hz⟩ := I1.list hq
  have hlen : its.toArray.size = ns.length := by rw [List.size_toArray, ← r.length, List.length_map]
  refine call_set_list (I1.ok.hd hc) pl.isList (by simpa using RZ.intsAre_vals r) (by rw [hlen]; unfold scanBound; omega) fun h' tk hS hk => ?_
  refine PyProof.Rows.args_nil ?_
  have ef : PyProof.Rows.firstMet (fun i => ns.getD i 0) ns.length = ns.foldl PyProof.Rows.step_dedup [] := by unfold PyProof.Rows.firstMet; rw [range_getD]
  rw [hlen, ef] at hS
  have hle : (ns.foldl PyProof.Rows.step_dedup []).length ≤ 4000 := by rw [← ef]; exact Nat.le_trans (PyProof.Rows.firstMet_length_le _ _) hl
  obtain ⟨o, es, ep, t, ho, hex, hd, _, _, _, hf, hn⟩ := hS
  have I2 : Inv X pins σ H1 { s1 with heap := h', toks := tk } := I1.kept fun b o e => hk b o (Heap.lt_size e) e
  exact call_len_set ho hex hd hf (by rw [hn] <;> omega) ⟨.int _, H1, I2.tok _, ⟨_, by rw [hn]⟩, q1⟩
/-! sorted -/
theorem each_vals {K : Fg} {N : Addr → Prop} {Hs : Hp} : ∀ {out : List Value} {ds : List D}, PySem.W.EachIs (fun v d => ∃ x, RelV x v ∧ Dq K N Hs x d) out ds → ∃ xs, Vals xs out ∧ DqAll K N Hs xs ds
  | _, _, .nil => ⟨[], .nil, .nil⟩
  | _, _, .cons ⟨x, h1, h2⟩ t => by
    obtain ⟨xs, q1, q2⟩ := each_vals t
    exact ⟨x :: xs, .cons h1 q1, .cons h2 q2⟩
theorem vals_each {K : Fg} {N : Addr → Prop} {Hs : Hp} : ∀ {xs : List V} {out : List Value} {ds : List D}, Vals xs out → DqAll K N Hs xs ds → PySem.W.EachIs (fun v d => ∃ x, RelV x v ∧ Dq K N Hs x d) out ds
  | _, _, _, .nil, h => by cases h; exact .nil
  | _, _, _, .cons r t, h => by
    cases h with
    | cons h1 h2 => exact .cons ⟨_, r, h1⟩ (vals_each t h2)
theorem deps_mem : ∀ {ds : List D} {d : D}, d ∈ ds → d.dep ≤ D.deps ds
  | x :: xs, d, h => by
    unfold D.deps
    rcases List.mem_cons.mp h with rfl | h
    · omega
    · have := deps_mem h; omega
theorem b_sorted {N : Addr → Prop} (hu : X.A.units + 66 < cLine) : CallR X (.builtin "sorted") (rBi X.K N bi_sorted) := by
  intro pins s σ H vs us Q I r h
  obtain ⟨Hs, ds, o, sb, hd, e, k⟩ := h
  unfold bi_sorted at e
  split at e <;> try (cases e; done)
  rename_i f xs
  split at e <;> try (cases e; done)
  rename_i hl
  cases e
  simp only [Bool.and_eq_true, decide_eq_true_eq] at hl
  obtain ⟨al, dp⟩ := alike_all hl.1
  obtain ⟨v, rfl, a, ys, rfl, h1, h2⟩ := hd.one
  obtain ⟨its, rv, pl, hz⟩ := I.list h1.sql
  rw [Vals.ref1 r]
  obtain ⟨as, hr⟩ := Dp.readsAll I _ _ its (h2.reads sb (by omega)) rv
  have eE := vals_each rv h2
  rw [pys_map] at hr
  have er := PySem.W.readsAll_each D.py hr
  have hlen : xs.length ≤ sizeLine := by rw [← h2.length]; exact hz
  refine PySem.W.sorted_data pl.isList eE er ?_ ?_ hlen (fun b hb => ?_) fun out h1' h2' => ?_
  · intro x hx y hy
    rw [← pys_map] at hx hy
    exact al.1 x hx y hy
  · have h4 := hl.2
    unfold D.sortk at h4
    simp only [Bool.or_eq_true, List.all_eq_true] at h4
    rcases h4 with h4 | h4
    · refine .inl fun d hd => ?_
      obtain ⟨b, hb, rfl⟩ := List.mem_map.mp hd
      have := h4 b hb
      cases b with
      | tup zs =>
        cases zs with
        | nil => cases this
        | cons z zs => exact ⟨_, _, rfl⟩
      | _ => cases this
    · refine .inr fun d hd => ?_
      obtain ⟨b, hb, rfl⟩ := List.mem_map.mp hd
      have := h4 b hb
      cases b <;> first | (cases this; done) | exact ⟨(fun z => by cases z), (fun xs z => by cases z)⟩
  · have h5 := deps_mem hb
    have := (depth_py b (by omega)).1
    omega
  · obtain ⟨ys', q1, q2⟩ := each_vals h2'
    obtain ⟨c, he⟩ := PyProof.Rows.sortedAll_at s.heap its out.toArray
    have hz2 : ys'.length ≤ sizeLine := by rw [q1.length, h1']; exact hlen
    have I1 : Inv X pins σ (upd H (s.heap.objs.size + 1) (.lst ys')) { s with heap := PyProof.Rows.sortedAll s.heap its out.toArray } :=
      I.laid (t' := s.toks) (fun _ _ => PyProof.Rows.sortedAll_old) (Nat.le_succ _) ⟨hz2, out, c, q1, he⟩
    exact ⟨.ref _, _, I1, rfl, newL sb k q2 _ (I.hok.fresh (Nat.le_succ _))⟩
end
end Rf
set_option linter.all false
set_option maxRecDepth 100000
set_option maxHeartbeats 1000000
set_option Elab.async false
/-! Rf soundness, part 11: iterables. -/
namespace Rf
open PySem PySem.Spec PyProof.Rows L2
/-- a list that stands in the heap now -/
def Src (K : Fg) (N : Addr → Prop) (Hs H : Hp) (a : Addr) (ds : List D) : Prop := ∃ vs, SqL K H a vs ∧ DqAll K N Hs vs ds
/-- the iterator gives these data, whatever comes later -/
def ItOk (K : Fg) (N : Addr → Prop) (Hs0 : Hp) (J : L2.It) (xs : List D) (src : Option (Addr × List D)) : Prop :=
  ∀ Hs H, Sub Hs0 Hs → Sub Hs H → (∀ p, src = some p → Src K N Hs H p.1 p.2) → ∀ k,
    (∀ d, xs[k]? = some d → J.go k H ∧ ∀ x H', J.yld k H x H' → ∃ Hs', Ext Hs H Hs' H' ∧ Dq K N Hs' x d) ∧ (xs.length ≤ k → J.stop k H)
/-- where the walked list stands -/
def SrcOk (σ : L2.St) (δ : Envr) : Option (Nat × List D) → Option (Addr × List D) → Prop
  | none, none => True
  | some (i, ds), some (a, ds') => ds = ds' ∧ σ[i]? = some (some (.ref a)) ∧ δ[i]? = some (.ow ds)
  | _, _ => False
def tI (K : Fg) (R : Rg) (C : Nat → Addr) (W : WX) (f : M (List D × Option (Nat × List D))) : TI := fun σ H Q => ∃ (Hs : Hp) (δ : Envr), Wd K R σ δ Hs H ∧
  Ok (f δ) (fun p δ' => ∀ J Hs' H' src, Wd K R σ δ' Hs' H' → Go σ δ Hs H δ' Hs' H' → ItOk K R.N Hs' J p.1 src → SrcOk σ δ' p.2 src → Q J H') (Xc K R C W σ)
theorem SqL.inj {K : Fg} {H : Hp} {a : Addr} {xs ys : List V} {X : Cx} {pins : List (Addr × Obj)} {σ : L2.St} {s : Shared} (I : Inv X pins σ H s) (h : SqL X.K H a xs) (k : SqL X.K H a ys) : xs = ys := I.list_inj h k
section
variable {K : Fg} {N : Addr → Prop} {Hs0 : Hp}
/-- by what is read at every turn: a list, as it stands -/
theorem itl_ok {a : Addr} {ds : List D} : ItOk K N Hs0 (Itl K a) ds (some (a, ds)) := fun Hs H s1 s2 hs k => by
  obtain ⟨vs, h1, h2⟩ := hs _ rfl
  refine ⟨fun d hd => ?_, fun hk => ⟨vs, h1, by rw [h2.length]; exact hk⟩⟩
  obtain ⟨v, hv, hd⟩ := h2.get hd
  refine ⟨⟨vs, v, h1, hv⟩, fun x H' ⟨e, hx⟩ => ?_⟩
  subst e
  have := hx vs h1
  rw [hv] at this; cases this
  exact ⟨Hs, .refl s2, hd⟩
theorem ItOk.fixed {J : L2.It} {xs : List D} {a : Addr} {ds : List D} (h : ItOk K N Hs0 J xs (some (a, ds))) {vs : List V} (h1 : SqL K Hs0 a vs) (h2 : DqAll K N Hs0 vs ds) : ItOk K N Hs0 J xs none := fun Hs H s1 s2 hs k =>
  h Hs H s1 s2 (fun p hp => by cases hp; exact ⟨vs, s2.sql (s1.sql h1), h2.mono s1⟩) k
theorem itt_ok {a : Addr} {vs : List V} {ds : List D} (h1 : SqT K Hs0 a vs) (h2 : DqAll K N Hs0 vs ds) : ItOk K N Hs0 (Itt K a) ds none := fun Hs H s1 s2 hs k => by
  have h1 := s2.sqt (s1.sqt h1)
  have h2 := h2.mono s1
  refine ⟨fun d hd => ?_, fun hk => ⟨vs, h1, by rw [h2.length]; exact hk⟩⟩
  obtain ⟨v, hv, hd⟩ := h2.get hd
  refine ⟨⟨vs, v, h1, hv⟩, fun x H' ⟨e, hx⟩ => ?_⟩
  subst e
  have := hx vs h1
  rw [hv] at this; cases this
  exact ⟨Hs, .refl s2, hd⟩
theorem ranged_get {a b : Int} {k : Nat} {d : D} (h : (ranged a b)[k]? = some d) : k < (b - a).toNat ∧ d = .int (a + k) := by
  unfold ranged at h
  rw [List.getElem?_map] at h
  obtain ⟨x, h1, h2⟩ := Option.map_eq_some_iff.mp h
  obtain ⟨h3, h4⟩ := List.getElem?_eq_some_iff.mp h1
  rw [List.length_range] at h3
  rw [List.getElem_range] at h4
  subst h4
  exact ⟨h3, h2.symm⟩
theorem itr_ok (a b : Int) : ItOk K N Hs0 (Itr a (b - a).toNat) (ranged a b) none := fun Hs H s1 s2 hs k => by
  refine ⟨fun d hd => ?_, fun hk => by rw [ranged_len] at hk; exact hk⟩
  obtain ⟨h1, h2⟩ := ranged_get hd
  refine ⟨h1, fun x H' ⟨e, hx⟩ => ?_⟩
  subst e hx h2
  exact ⟨Hs, .refl s2, .int _⟩
theorem its_ok (x : Str) : ItOk K N Hs0 (Its x) (x.cps.toList.map fun c => D.str ⟨#[c]⟩) none := fun Hs H s1 s2 hs k => by
  refine ⟨fun d hd => ?_, fun hk => by rw [List.length_map, Array.length_toList] at hk; exact hk⟩
  rw [List.getElem?_map] at hd
  obtain ⟨c, h1, h2⟩ := Option.map_eq_some_iff.mp hd
  have h3 : x.cps[k]? = some c := by rw [← Array.getElem?_toList]; exact h1
  refine ⟨(Array.getElem?_eq_some_iff.mp h3).1, fun v H' ⟨e, c', hc, hv⟩ => ?_⟩
  subst e hv h2
  rw [h3] at hc; cases hc
  exact ⟨Hs, .refl s2, .str _⟩
theorem enumd_get : ∀ {xs : List D} {n k : Nat} {d : D}, (enumd n xs)[k]? = some d → ∃ x, xs[k]? = some x ∧ d = .tup [.int ((n + k : Nat) : Int), x]
  | [], _, _, _, h => by simp [enumd] at h
  | x :: xs, n, 0, d, h => by
    simp [enumd] at h
    exact ⟨x, rfl, by rw [← h]; rfl⟩
  | x :: xs, n, k + 1, d, h => by
    have h : (enumd (n + 1) xs)[k]? = some d := by simpa [enumd] using h
    obtain ⟨y, h1, h2⟩ := enumd_get h
    exact ⟨y, by simpa using h1, by rw [h2, show n + 1 + k = n + (k + 1) by omega]⟩
theorem enumd_len : ∀ {xs : List D} {n : Nat}, (enumd n xs).length = xs.length
  | [], _ => rfl
  | x :: xs, n => by simp [enumd, enumd_len]
theorem ite_ok {a : Addr} {ds : List D} : ItOk K N Hs0 (Ite K a) (enumd 0 ds) (some (a, ds)) := fun Hs H s1 s2 hs k => by
  obtain ⟨vs, h1, h2⟩ := hs _ rfl
  refine ⟨fun d hd => ?_, fun hk => ⟨vs, h1, by rw [h2.length, ← enumd_len (n := 0)]; exact hk⟩⟩
  obtain ⟨d0, hd0, rfl⟩ := enumd_get hd
  obtain ⟨v, hv, hd⟩ := h2.get hd0
  refine ⟨⟨vs, v, h1, hv⟩, fun y H' ⟨T, x, e1, e2, e3, hx⟩ => ?_⟩
  have := hx vs h1
  rw [hv] at this; cases this
  subst e1 e3
  refine ⟨upd Hs T (.tup [.int (k : Nat), v]), .newS s2 e2, .tup (.of upd_same) (.cons ?_ (.cons (hd.mono (.new (s2.back e2))) .nil))⟩
  rw [Nat.zero_add]
  exact .int _
theorem zipd_get : ∀ {xs ys : List D} {k : Nat} {d : D}, (zipd xs ys)[k]? = some d → ∃ x y, xs[k]? = some x ∧ ys[k]? = some y ∧ d = .tup [x, y]
  | [], _, _, _, h => by simp [zipd] at h
  | _ :: _, [], _, _, h => by simp [zipd] at h
  | x :: xs, y :: ys, 0, d, h => by
    simp [zipd] at h
    exact ⟨x, y, rfl, rfl, h.symm⟩
  | x :: xs, y :: ys, k + 1, d, h => by
    have h : (zipd xs ys)[k]? = some d := by simpa [zipd] using h
    obtain ⟨a, b, h1, h2, h3⟩ := zipd_get h
    exact ⟨a, b, by simpa using h1, by simpa using h2, h3⟩
theorem zipd_len : ∀ {xs ys : List D}, (zipd xs ys).length = min xs.length ys.length
  | [], _ => by simp [zipd]
  | _ :: _, [] => by simp [zipd]
  | x :: xs, y :: ys => by simp only [zipd, List.length_cons, zipd_len]; omega
theorem itz_ok {a b : Addr} {vs ws : List V} {ds es : List D} (h1 : SqL K Hs0 a vs) (h2 : DqAll K N Hs0 vs ds) (g1 : SqL K Hs0 b ws) (g2 : DqAll K N Hs0 ws es) : ItOk K N Hs0 (Itz K a b) (zipd ds es) none := fun Hs H s1 s2 hs k => by
  have h1 := s2.sql (s1.sql h1)
  have h2 := h2.mono s1
  have g1 := s2.sql (s1.sql g1)
  have g2 := g2.mono s1
  refine ⟨fun d hd => ?_, fun hk => ⟨vs, ws, h1, g1, by rw [zipd_len] at hk; rw [h2.length, g2.length]; omega⟩⟩
  obtain ⟨d1, d2, q1, q2, rfl⟩ := zipd_get hd
  obtain ⟨v, hv, hd1⟩ := h2.get q1
  obtain ⟨w, hw, hd2⟩ := g2.get q2
  refine ⟨⟨vs, ws, v, w, h1, g1, hv, hw⟩, fun y H' ⟨T, x, z, e1, e2, e3, hx, hz⟩ => ?_⟩
  have := hx vs h1
  rw [hv] at this; cases this
  have := hz ws g1
  rw [hw] at this; cases this
  subst e1 e3
  have sn := Sub.new (o := .tup [v, w]) (s2.back e2)
  exact ⟨upd Hs T (.tup [v, w]), .newS s2 e2, .tup (.of upd_same) (.cons (hd1.mono sn) (.cons (hd2.mono sn) .nil))⟩
end
section
variable {X : Cx} {R : Rg} {C : Nat → Addr} {W : WX} {cf : CF} {tg : Expr}
/-- for x in e, e of any kind that is walked -/
def kSeq (K : Fg) (x : V) (H : Hp) (Q : L2.It → Hp → Prop) : Prop :=
  (∃ a xs, x = .ref a ∧ SqL K H a xs ∧ Q (Itl K a) H) ∨ (∃ a xs, x = .ref a ∧ SqT K H a xs ∧ Q (Itt K a) H) ∨ (∃ x', x = .str x' ∧ Q (Its x') H) ∨
  (∃ a lo hi, x = .ref a ∧ H a = some (.rng lo hi) ∧ (-(2 ^ 62) ≤ lo ∧ lo < 2 ^ 62 ∧ -(2 ^ 62) ≤ hi ∧ hi < 2 ^ 62) ∧ Q (Itr lo (hi - lo).toNat) H)
theorem pi_seq {e : Expr} {te : TE} (he : PE X e te) : PI X tg e (fun σ H Q => te σ H fun x H1 => kSeq X.K x H1 Q) := by
  refine ⟨fun pins s σ H Q I h => ?_⟩
  refine thn (he.run pins s σ H _ I h) fun v s1 ⟨x, H1, I1, r1, q1⟩ => ?_
  rcases q1 with ⟨a, xs, e, hq, q⟩ | ⟨a, xs, e, hq, q⟩ | ⟨x', e, q⟩ | ⟨a, lo, hi, e, ha, ⟨b1, b2, b3, b4⟩, q⟩
  · subst e
    cases r1
    obtain ⟨its, rv, p, hz⟩ := I1.list hq
    exact wpAny_pyIter_list p.isList (pi_one (tk := s1.toks) I1 _ (turn_list a _) ⟨_, Heap.get?_push_size _ rfl, rfl, rfl⟩ q)
  · subst e
    cases r1
    obtain ⟨its, rv, p, hz⟩ := I1.tuple hq
    exact wpAny_pyIter_tuple (show s1.heap.IsTuple a its.toArray from p) (pi_one (tk := s1.toks) I1 _ (turn_tuple a _) ⟨_, Heap.get?_push_size _ rfl, rfl, rfl⟩ q)
  · subst e
    obtain ⟨t, rfl⟩ := r1
    cases ha : x'.cps.all (· < 128)
    · exact wpAny_pyIter_wide ha (pi_one (tk := s1.toks) I1 _ (turn_str _ x' t "str_iterator" (.inr rfl)) ⟨_, Heap.get?_push_size _ rfl, rfl, rfl⟩ q)
    · exact wpAny_pyIter_ascii ha (pi_one (tk := s1.toks) I1 _ (turn_str _ x' t "str_ascii_iterator" (.inl rfl)) ⟨_, Heap.get?_push_size _ rfl, rfl, rfl⟩ q)
  · subst e
    cases r1
    obtain ⟨t, u, v, ho⟩ := I1.hok a _ ha
    refine wpAny_pyIter_range (show IsRange s1.heap a lo hi 1 t u v from ho) (small_one b1 b2 b3 b4) (pi_one (tk := s1.toks) I1 _ (turn_range _ lo (hi - lo).toNat) ?_ q)
    have e1 : lo + ((0 : Nat) : Int) * 1 = lo := by simp
    have e2 : (((hi - lo).toNat : Nat) : Int) - ((0 : Nat) : Int) = Builtin.Range.rangeSize lo hi 1 := by rw [rangeSize_one]; split <;> omega
    show IsRangeIter _ _ (lo + ((0 : Nat) : Int) * 1) ((((hi - lo).toNat : Nat) : Int) - ((0 : Nat) : Int)) 1
    rw [e1, e2]
    exact Heap.get?_push_size _ rfl
/-- a walked list: shared for good, or a slot's own -/
theorem lst_src {σ : L2.St} {δ : Envr} {Hs H : Hp} {v : V} {r : Rs} {f : Lb} {ds : List D} (w2 : Wd X.K R σ δ Hs H) (o2 : Opd X.K R Hs σ v r) (e1 : rd δ r = some (.lst f ds)) :
    ∃ a vs, v = .ref a ∧ SqL X.K H a vs ∧ DqAll X.K R.N Hs vs ds ∧ ((ownW δ r = none ∧ SqL X.K Hs a vs) ∨ ∃ i, ownW δ r = some (i, ds) ∧ SrcOk σ δ (some (i, ds)) (some (a, ds))) := by
  have shd : Dq X.K R.N Hs v (.lst f ds) → ownW δ r = none → ∃ a vs, v = .ref a ∧ SqL X.K H a vs ∧ DqAll X.K R.N Hs vs ds ∧ ((ownW δ r = none ∧ SqL X.K Hs a vs) ∨ ∃ i, ownW δ r = some (i, ds) ∧ SrcOk σ δ (some (i, ds)) (some (a, ds))) := fun hd e => by
    cases hd with
    | lst g1 g2 => exact ⟨_, _, rfl, w2.sub.sql g1.sql, g2, .inl ⟨e, g1.sql⟩⟩
  cases r with
  | fz d => cases e1; exact shd o2 rfl
  | nw ds' => cases e1; exact shd o2 rfl
  | sl i =>
    have o2 : σ[i]? = some (some v) := o2
    unfold rd at e1
    cases q : δ[i]? with
    | none => simp only [q] at e1; cases e1
    | some s =>
      cases s with
      | un => simp only [q] at e1; cases e1
      | sh d' =>
        simp only [q] at e1
        cases e1
        obtain ⟨w, h3, h4⟩ := w2.sh i _ q
        rw [o2] at h3; cases h3
        exact shd h4 (by unfold ownW; simp only [q])
      | ow ds' =>
        simp only [q] at e1
        cases e1
        obtain ⟨a, vs, h1, h2, h3, h4⟩ := w2.ow i _ q
        rw [o2] at h1; cases h1
        exact ⟨a, vs, rfl, .of h3, h4, .inr ⟨i, by unfold ownW; simp only [q], rfl, o2, q⟩⟩
theorem ownW_none {δ : Envr} {r : Rs} {d : D} (e : rd δ r = some d) (h : ∀ f ds, d ≠ .lst f ds) : ownW δ r = none := by
  cases r with
  | fz d => rfl
  | nw ds => rfl
  | sl i =>
    unfold rd at e
    unfold ownW
    cases q : δ[i]? with
    | none => simp only [q]
    | some s =>
      cases s with
      | un => simp only [q]
      | sh d => simp only [q]
      | ow ds =>
        simp only [q] at e
        cases e
        exact absurd rfl (h _ _)
theorem i_seq {e : Expr} {ea : Ex} (ha : PE X e (tE X.K R C W (ev cf ea))) : PI X tg e (tI X.K R C W (evI cf (.seq ea))) := by
  have h := pi_seq (tg := tg) ha
  refine ⟨fun pins s σ H Q I q => h.run pins s σ H Q I ?_⟩
  obtain ⟨Hs, δ, wd, q⟩ := q
  rw [evI] at q
  refine tE_bind (k := fun r => seqW r) wd q fun r δ1 v Hs1 H1 p1 k1 => ?_
  obtain ⟨Hs2, w2, g2, o2, _⟩ := p1.opd
  unfold seqW at k1
  cases e1 : rd δ1 r with
  | none => simp only [e1] at k1; exact k1.elim
  | some d =>
    simp only [e1] at k1
    cases d with
    | rng lo hi =>
      have hw := ownW_none e1 (fun _ _ z => by cases z)
      have hd := o2.rd w2 e1
      simp only [D.items, hw] at k1
      cases hd with
      | rng hd =>
        by_cases c : small lo = true ∧ small hi = true
        · rw [if_pos (by simpa using c)] at k1
          obtain ⟨s1, s2⟩ := small_iff c.1
          obtain ⟨s3, s4⟩ := small_iff c.2
          exact .inr (.inr (.inr ⟨_, lo, hi, rfl, w2.sub _ _ hd, ⟨s1, s2, s3, s4⟩, k1 _ Hs2 H1 none w2 g2 (itr_ok lo hi) trivial⟩))
        · rw [if_neg (by simpa using c)] at k1; exact k1.elim
    | lst f ds =>
      simp only [D.items] at k1
      obtain ⟨a, vs, rfl, h1, h2, h3⟩ := lst_src w2 o2 e1
      refine .inl ⟨a, vs, rfl, h1, ?_⟩
      rcases h3 with ⟨h3, h4⟩ | ⟨i, h3, h4⟩
      · rw [h3] at k1
        exact k1 _ Hs2 H1 none w2 g2 (itl_ok.fixed h4 h2) trivial
      · rw [h3] at k1
        exact k1 _ Hs2 H1 (some (a, ds)) w2 g2 itl_ok h4
    | tup ds =>
      have hw := ownW_none e1 (fun _ _ z => by cases z)
      have hd := o2.rd w2 e1
      simp only [D.items, hw] at k1
      cases hd with
      | tup h1 h2 => exact .inr (.inl ⟨_, _, rfl, w2.sub.sqt h1, k1 _ Hs2 H1 none w2 g2 (itt_ok h1 h2) trivial⟩)
    | str x =>
      have hw := ownW_none e1 (fun _ _ z => by cases z)
      have hd := o2.rd w2 e1
      simp only [D.items, hw] at k1
      cases hd
      exact .inr (.inr (.inl ⟨x, rfl, k1 _ Hs2 H1 none w2 g2 (its_ok x) trivial⟩))
    | _ => simp only [D.items] at k1; exact k1.elim
theorem i_rng1 {e : Expr} {ea : Ex} {p pos : Pos} (hg : Gl X "range") (hm : X.mg "range" = none) (hs : NotStar e) (ha : PE X e (tE X.K R C W (ev cf ea))) : PI X tg (.Call (.Name "range" p) [e] [] pos) (tI X.K R C W (evI cf (.rng1 ea))) := by
  have h := pi_range1 (tg := tg) (p := p) (pos := pos) hg hm (pa_cons ha pa_nil (star_of hs)) (star_of hs)
  refine ⟨fun pins s σ H Q I q => h.run pins s σ H Q I ?_⟩
  obtain ⟨Hs, δ, wd, q⟩ := q
  rw [evI] at q
  refine tE_bind wd q fun r δ1 v Hs1 H1 p1 k1 => ?_
  obtain ⟨Hs2, w2, g2, o2, _⟩ := p1.opd
  obtain ⟨d, e1, k2⟩ := rdM_ok k1
  have hd := o2.rd w2 e1
  cases d with
  | int i =>
    cases hd
    simp only at k2
    by_cases c : small i = true
    · rw [if_pos c] at k2
      obtain ⟨s1, s2⟩ := small_iff c
      refine ⟨i, rfl, s1, s2, ?_⟩
      have := k2 (Itr 0 (i - 0).toNat) Hs2 H1 none w2 g2 (itr_ok 0 i) trivial
      rwa [Int.sub_zero] at this
    · rw [if_neg c] at k2; exact k2.elim
  | _ => exact k2.elim
theorem i_rng2 {e e' : Expr} {ea eb : Ex} {p pos : Pos} (hg : Gl X "range") (hm : X.mg "range" = none) (hs : NotStar e) (hs' : NotStar e') (ha : PE X e (tE X.K R C W (ev cf ea))) (hb : PE X e' (tE X.K R C W (ev cf eb))) : PI X tg (.Call (.Name "range" p) [e, e'] [] pos) (tI X.K R C W (evI cf (.rng2 ea eb))) := by
  have h := pi_range2 (tg := tg) (p := p) (pos := pos) hg hm (pa_cons ha (pa_cons hb pa_nil (star_of hs')) (star_of hs)) (by rw [star_of hs, star_of hs']; rfl) (star_of hs')
  refine ⟨fun pins s σ H Q I q => h.run pins s σ H Q I ?_⟩
  obtain ⟨Hs, δ, wd, q⟩ := q
  rw [evI] at q
  refine two wd q (Q := fun x y H1 => ∃ i j : Int, [x, y] = [V.int i, V.int j] ∧ (-(2 ^ 62) ≤ i ∧ i < 2 ^ 62 ∧ -(2 ^ 62) ≤ j ∧ j < 2 ^ 62) ∧ Q (Itr i (j - i).toNat) H1) fun x y da db δ2 Hs2 H2 w2 g2 h1 h2 k => ?_
  cases da with
  | int i =>
    cases db with
    | int j =>
      cases h1; cases h2
      simp only at k
      by_cases c : (small i && small j) = true
      · rw [if_pos c] at k
        simp only [Bool.and_eq_true] at c
        obtain ⟨s1, s2⟩ := small_iff c.1
        obtain ⟨s3, s4⟩ := small_iff c.2
        exact ⟨i, j, rfl, ⟨s1, s2, s3, s4⟩, k _ Hs2 H2 none w2 g2 (itr_ok i j) trivial⟩
      · rw [if_neg c] at k; exact k.elim
    | _ => exact k.elim
  | _ => exact k.elim
theorem i_enum {e : Expr} {es : List Expr} {ea : Ex} {kk : Nat} {p pos tpos : Pos} (hg : Gl X "enumerate") (hm : X.mg "enumerate" = none) (hs : NotStar e) (ha : PE X e (tE X.K R C W (ev cf ea))) :
    PI X (.Tuple es kk tpos) (.Call (.Name "enumerate" p) [e] [] pos) (tI X.K R C W (evI cf (.enum ea))) := by
  have h := pi_enum (elts := es) (kk := kk) (tpos := tpos) (p := p) (pos := pos) hg hm (pa_cons ha pa_nil (star_of hs)) (star_of hs)
  refine ⟨fun pins s σ H Q I q => h.run pins s σ H Q I ?_⟩
  obtain ⟨Hs, δ, wd, q⟩ := q
  rw [evI] at q
  refine tE_bind wd q fun r δ1 v Hs1 H1 p1 k1 => ?_
  obtain ⟨Hs2, w2, g2, o2, _⟩ := p1.opd
  have k1 := Ok.bindI k1
  unfold lstW at k1
  cases e1 : rd δ1 r with
  | none => simp only [e1] at k1; exact k1.elim
  | some d =>
    simp only [e1] at k1
    cases d with
    | lst f ds =>
      obtain ⟨a, vs, rfl, h1, h2, h3⟩ := lst_src w2 o2 e1
      refine ⟨a, vs, rfl, h1, ?_⟩
      rcases h3 with ⟨h3, h4⟩ | ⟨i, h3, h4⟩
      · rw [h3] at k1
        exact k1 _ Hs2 H1 none w2 g2 (ite_ok.fixed h4 h2) trivial
      · rw [h3] at k1
        exact k1 _ Hs2 H1 (some (a, ds)) w2 g2 ite_ok h4
    | _ => exact k1.elim
theorem i_zip {e e' : Expr} {es : List Expr} {ea eb : Ex} {kk : Nat} {p pos tpos : Pos} (hg : Gl X "zip") (hm : X.mg "zip" = none) (hs : NotStar e) (hs' : NotStar e') (ha : PE X e (tE X.K R C W (ev cf ea))) (hb : PE X e' (tE X.K R C W (ev cf eb))) :
    PI X (.Tuple es kk tpos) (.Call (.Name "zip" p) [e, e'] [] pos) (tI X.K R C W (evI cf (.zip ea eb))) := by
  have h := pi_zip (elts := es) (kk := kk) (tpos := tpos) (p := p) (pos := pos) hg hm (pa_cons ha (pa_cons hb pa_nil (star_of hs')) (star_of hs)) (star_of hs) (by rw [star_of hs']; rfl)
  refine ⟨fun pins s σ H Q I q => h.run pins s σ H Q I ?_⟩
  obtain ⟨Hs, δ, wd, q⟩ := q
  rw [evI] at q
  refine tE_bind wd q fun ra δ1 x Hs1 H1 p1 k1 => ?_
  obtain ⟨Hs2, w2, g2, o2, _⟩ := p1.opd
  refine tE_bind w2 k1 fun rb δ2 y Hs3 H3 p3 k3 => ?_
  obtain ⟨Hs4, w4, g4, o4, _⟩ := p3.opd
  obtain ⟨da, δ5, Hs5, w5, g5, hda, k5⟩ := esc_ok w4 (o2.mono g4.hs) k3
  obtain ⟨db, δ6, Hs6, w6, g6, hdb, k6⟩ := esc_ok w5 (o4.mono g5.hs) k5
  have hda := hda.mono g6.hs
  cases da with
  | lst f ds =>
    cases db with
    | lst g es =>
      cases hda with
      | lst h1 h2 =>
        cases hdb with
        | lst h3 h4 =>
          exact ⟨_, _, _, _, rfl, w6.sub.sql h1.sql, w6.sub.sql h3.sql, k6 _ Hs6 H3 none w6 (((g2.trans g4).trans g5).trans g6) (itz_ok h1.sql h2 h3.sql h4) trivial⟩
    | _ => exact k6.elim
  | _ => exact k6.elim
end
end Rf
set_option linter.all false
set_option maxRecDepth 100000
set_option maxHeartbeats 1000000
set_option Elab.async false
/-! Rf soundness, part 12: targets, comprehensions. -/
namespace Rf
open PySem PySem.Spec PyProof.Rows L2
theorem setAll_len : ∀ (is : List Nat) (vs : List SV) (δ : Envr), (setAll δ is vs).length = δ.length
  | [], _, _ => by simp [setAll]
  | _ :: _, [], _ => by simp [setAll]
  | i :: is, v :: vs, δ => by unfold setAll; rw [setAll_len is vs, List.length_set]
theorem setAll_get {f : Nat → SV} : ∀ (is : List Nat) (δ : Envr) (j : Nat), (setAll δ is (is.map f))[j]? = if j ∈ is ∧ j < δ.length then some (f j) else δ[j]?
  | [], δ, j => by simp [setAll]
  | i :: is, δ, j => by
    rw [List.map_cons, setAll, setAll_get is, List.length_set]
    by_cases c : j ∈ is ∧ j < δ.length
    · rw [if_pos c, if_pos ⟨List.mem_cons_of_mem _ c.1, c.2⟩]
    · rw [if_neg c]
      by_cases e : i = j
      · subst e
        by_cases hl : i < δ.length
        · rw [if_pos ⟨List.mem_cons_self, hl⟩, List.getElem?_set_self hl]
        · rw [if_neg (fun z => hl z.2), List.getElem?_eq_none (by simpa using hl), List.getElem?_eq_none (by simpa using hl)]
      · rw [get_set_ne e, if_neg]
        intro z
        rcases List.mem_cons.mp z.1 with q | q
        · exact e q.symm
        · exact c ⟨q, z.2⟩
theorem wipe_get : ∀ (vs : List Nat) (σ : L2.St) (j : Nat), (wipe σ vs)[j]? = if j ∈ vs ∧ j < σ.length then some none else σ[j]?
  | [], σ, j => by simp [wipe]
  | i :: is, σ, j => by
    unfold wipe
    by_cases e : i = j
    · subst e
      by_cases hl : i < σ.length
      · rw [if_pos ⟨List.mem_cons_self, hl⟩, List.getElem?_set_self (by rw [wipe_length]; exact hl)]
      · rw [if_neg (fun z => hl z.2), List.getElem?_eq_none (by rw [List.length_set, wipe_length]; simpa using hl), List.getElem?_eq_none (by simpa using hl)]
    · rw [List.getElem?_set_ne e, wipe_get is]
      by_cases c : j ∈ is ∧ j < σ.length
      · rw [if_pos c, if_pos ⟨List.mem_cons_of_mem _ c.1, c.2⟩]
      · rw [if_neg c, if_neg]
        intro z
        rcases List.mem_cons.mp z.1 with q | q
        · exact e q.symm
        · exact c ⟨q, z.2⟩
theorem wipe_set {vs : List Nat} {σ : L2.St} {i : Nat} {x : Option V} (h : i ∈ vs) : wipe (σ.set i x) vs = wipe σ vs := by
  apply List.ext_getElem?
  intro j
  rw [wipe_get, wipe_get, List.length_set]
  by_cases c : j ∈ vs ∧ j < σ.length
  · rw [if_pos c, if_pos c]
  · rw [if_neg c, if_neg c]
    by_cases e : i = j
    · subst e
      have : ¬ i < σ.length := fun z => c ⟨h, z⟩
      rw [List.getElem?_eq_none (by rw [List.length_set]; omega), List.getElem?_eq_none (by omega)]
    · rw [List.getElem?_set_ne e]
section
variable {K : Fg} {R : Rg} {σ : L2.St} {δ : Envr} {Hs H : Hp}
/-- a slot is set to a shared value -/
theorem Wd.setV (w : Wd K R σ δ Hs H) {i : Nat} {d : D} {v : V} (hi : i ∉ R.nas) (hd : Dq K R.N Hs v d) : Wd K R (σ.set i (some v)) (δ.set i (.sh d)) Hs H where
  bs := w.bs
  sub := w.sub
  fr := w.fr
  tb := w.tb
  ns := w.ns
  dom := w.dom
  nf := w.nf
  len := by rw [List.length_set, List.length_set]; exact w.len
  sh := fun j d' e => by
    rcases get_set e with ⟨q, z⟩ | ⟨q, z⟩
    · cases z; subst q
      have hl : i < σ.length := by
        rw [w.len]
        have := (List.getElem?_eq_some_iff.mp e).1
        rwa [List.length_set] at this
      exact ⟨v, List.getElem?_set_self hl, hd⟩
    · obtain ⟨u, h1, h2⟩ := w.sh j d' z
      exact ⟨u, by rw [List.getElem?_set_ne q]; exact h1, h2⟩
  ow := fun j ds e => by
    rcases get_set e with ⟨q, z⟩ | ⟨q, z⟩
    · cases z
    · rw [List.getElem?_set_ne q]; exact w.ow j ds z
  owA := fun a ⟨j, ds, e1, e2⟩ => by
    rcases get_set e1 with ⟨q, z⟩ | ⟨q, z⟩
    · cases z
    · rw [List.getElem?_set_ne q] at e2; exact w.owA a ⟨j, ds, z, e2⟩
  dj := fun j k ds es a h1 h2 e1 e2 => by
    rcases get_set h1 with ⟨q, z⟩ | ⟨q1, z1⟩
    · cases z
    rcases get_set h2 with ⟨q, z⟩ | ⟨q2, z2⟩
    · cases z
    rw [List.getElem?_set_ne q1] at e1
    rw [List.getElem?_set_ne q2] at e2
    exact w.dj j k ds es a z1 z2 e1 e2
  kp := fun j hj => by
    have : i ≠ j := fun z => hi (z ▸ hj)
    rw [List.getElem?_set_ne this]; exact w.kp j hj
theorem Own.setV {i : Nat} {d : D} {v : V} {a : Addr} (h : Own (σ.set i (some v)) (δ.set i (.sh d)) a) : Own σ δ a := by
  obtain ⟨j, ds, e1, e2⟩ := h
  rcases get_set e1 with ⟨q, z⟩ | ⟨q, z⟩
  · cases z
  · rw [List.getElem?_set_ne q] at e2; exact ⟨j, ds, z, e2⟩
end
/-! targets -/
def gNames : List Nat → TGs
  | [] => gNil
  | i :: is => gCons (gName i) (gNames is)
def Tg.g (K : Fg) : Tg → TG
  | .nm i => gName i
  | .tp is => fun v σ H Q => gTup K is.length (gNames is) v σ H Q ∨ gUnl K is.length (gNames is) v σ H Q
theorem pg_or {X : Cx} {e : Expr} {t u : TG} (h : PG X e t) (k : PG X e u) : PG X e (fun v σ H Q => t v σ H Q ∨ u v σ H Q) := ⟨fun pins s σ H v x Q I r q => by
  rcases q with q | q
  · exact h.run pins s σ H v x Q I r q
  · exact k.run pins s σ H v x Q I r q⟩
theorem names_go {K : Fg} {R : Rg} {Hs H : Hp} {Q : L2.St → Hp → Prop} : ∀ {is : List Nat} {vs : List V} {ds : List D} {σ : L2.St} {δ : Envr}, (∀ i ∈ is, i ∉ R.nas) → Wd K R σ δ Hs H → DqAll K R.N Hs vs ds → vs.length = is.length →
    (∀ σ', Wd K R σ' (setAll δ is (ds.map .sh)) Hs H → (∀ a, Own σ' (setAll δ is (ds.map .sh)) a → Own σ δ a) → (∀ us, (∀ i ∈ is, i ∈ us) → wipe σ' us = wipe σ us) → Q σ' H) → gNames is vs σ H Q
  | [], [], ds, σ, δ, _, w, h, _, k => by
    cases h
    exact ⟨rfl, k σ w (fun _ h => h) (fun _ _ => rfl)⟩
  | [], _ :: _, _, _, _, _, _, _, e, _ => by cases e
  | _ :: _, [], _, _, _, _, _, _, e, _ => by cases e
  | i :: is, v :: vs, ds, σ, δ, hn, w, h, e, k => by
    cases h with
    | cons h1 h2 =>
      refine ⟨v, vs, rfl, ?_⟩
      refine names_go (fun j hj => hn j (List.mem_cons_of_mem _ hj)) (w.setV (hn i List.mem_cons_self) h1) h2 (by simpa using e) fun σ' w' o' z => ?_
      exact k σ' w' (fun a h => Own.setV (o' a h)) fun us hus => by
        rw [z us fun j hj => hus j (List.mem_cons_of_mem _ hj), wipe_set (hus i List.mem_cons_self)]
theorem put_go {α : Type} {K : Fg} {R : Rg} {Hs H : Hp} {Q : L2.St → Hp → Prop} {tg : Tg} {v : V} {d : D} {σ : L2.St} {δ : Envr} {k : Unit → M α} {g : α → Envr → Prop} {e : Nat → D → Envr → Prop} (hn : ∀ i ∈ tg.slots, i ∉ R.nas) (w : Wd K R σ δ Hs H) (hd : Dq K R.N Hs v d) (h : Ok ((tg.put d >>= k) δ) g e)
    (hk : ∀ σ' δ', Wd K R σ' δ' Hs H → (∀ a, Own σ' δ' a → Own σ δ a) → (∀ us, (∀ i ∈ tg.slots, i ∈ us) → wipe σ' us = wipe σ us) → Ok (k () δ') g e → Q σ' H) : tg.g K v σ H Q := by
  have h := h.bindI
  cases tg with
  | nm i =>
    have h : Ok (k () (δ.set i (.sh d))) g e := h
    refine hk _ _ (w.setV (hn i List.mem_cons_self) hd) (fun a h => Own.setV h) (fun us hus => wipe_set (hus i List.mem_cons_self)) h
  | tp is =>
    unfold Tg.put at h
    cases d with
    | tup ds =>
      simp only at h
      split at h
      · rename_i hl
        cases hd with
        | tup h1 h2 =>
          refine .inl ⟨_, _, rfl, w.sub.sqt h1, by rw [h2.length]; exact hl, ?_⟩
          exact names_go hn w h2 (by rw [h2.length]; exact hl) fun σ' w' o' z => hk σ' _ w' o' z h
      · exact h.elim
    | lst f ds =>
      simp only at h
      split at h
      · rename_i hl
        cases hd with
        | lst h1 h2 =>
          refine .inr ⟨_, _, rfl, w.sub.sql h1.sql, by rw [h2.length]; exact hl, ?_⟩
          exact names_go hn w h2 (by rw [h2.length]; exact hl) fun σ' w' o' z => hk σ' _ w' o' z h
      · exact h.elim
    | _ => exact h.elim
/-! aside, back -/
def Rg.free (R : Rg) : Rg := { R with nas := [] }
section
variable {K : Fg} {R : Rg} {σ : L2.St} {δ : Envr} {Hs H : Hp} {vs is : List Nat}
theorem emptied_get {j : Nat} : (setAll δ is (is.map fun _ => SV.un))[j]? = if j ∈ is ∧ j < δ.length then some .un else δ[j]? := setAll_get is δ j
theorem emptied_sh {j : Nat} {s : SV} (hs : s ≠ .un) (h : (setAll δ is (is.map fun _ => SV.un))[j]? = some s) : j ∉ is ∧ δ[j]? = some s := by
  rw [emptied_get] at h
  by_cases c : j ∈ is ∧ j < δ.length
  · rw [if_pos c] at h; cases h; exact absurd rfl hs
  · rw [if_neg c] at h
    exact ⟨fun z => c ⟨z, (List.getElem?_eq_some_iff.mp h).1⟩, h⟩
/-- the slots is are forgotten, and the values of vs, those same slots -/
theorem Wd.wiped (w : Wd K R σ δ Hs H) (hv : ∀ j ∈ vs, j ∈ is) : Wd K R.free (wipe σ vs) (setAll δ is (is.map fun _ => .un)) Hs H where
  bs := w.bs
  sub := w.sub
  fr := w.fr
  tb := w.tb
  ns := w.ns
  dom := w.dom
  nf := w.nf
  len := by rw [wipe_length, setAll_len]; exact w.len
  sh := fun j d e => by
    obtain ⟨h1, h2⟩ := emptied_sh (by intro z; cases z) e
    rw [wipe_get, if_neg (fun z => h1 (hv j z.1))]
    exact w.sh j d h2
  ow := fun j ds e => by
    obtain ⟨h1, h2⟩ := emptied_sh (by intro z; cases z) e
    rw [wipe_get, if_neg (fun z => h1 (hv j z.1))]
    exact w.ow j ds h2
  owA := fun a ⟨j, ds, e1, e2⟩ => by
    obtain ⟨h1, h2⟩ := emptied_sh (by intro z; cases z) e1
    rw [wipe_get, if_neg (fun z => h1 (hv j z.1))] at e2
    exact w.owA a ⟨j, ds, h2, e2⟩
  dj := fun j k ds es a h1 h2 e1 e2 => by
    obtain ⟨h3, h4⟩ := emptied_sh (by intro z; cases z) h1
    obtain ⟨h5, h6⟩ := emptied_sh (by intro z; cases z) h2
    rw [wipe_get, if_neg (fun z => h3 (hv j z.1))] at e1
    rw [wipe_get, if_neg (fun z => h5 (hv k z.1))] at e2
    exact w.dj j k ds es a h4 h6 e1 e2
  kp := fun j hj => by cases hj
theorem Own.wiped {a : Addr} (hv : ∀ j ∈ vs, j ∈ is) (h : Own (wipe σ vs) (setAll δ is (is.map fun _ => .un)) a) : Own σ δ a := by
  obtain ⟨j, ds, e1, e2⟩ := h
  obtain ⟨h1, h2⟩ := emptied_sh (by intro z; cases z) e1
  rw [wipe_get, if_neg (fun z => h1 (hv j z.1))] at e2
  exact ⟨j, ds, h2, e2⟩
end
end Rf
set_option linter.all false
set_option maxRecDepth 100000
set_option maxHeartbeats 1000000
set_option Elab.async false
/-! Rf soundness, part 13: comprehensions. -/
namespace Rf
open PySem PySem.Spec PyProof.Rows L2
section
variable {K : Fg} {R : Rg} {C : Nat → Addr} {W : WX} {cf : CF} {σ : L2.St} {δ δ1 : Envr} {Hs H Hs1 H1 : Hp} {vs is : List Nat}
theorem back_get {j : Nat} {s : SV} (hs : s ≠ .un) (h : (setAll δ is (is.map fun i => shOnly δ1[i]?))[j]? = some s) : (j ∈ is ∧ ∃ d, s = .sh d ∧ δ1[j]? = some (.sh d)) ∨ (j ∉ is ∧ δ[j]? = some s) := by
  rw [setAll_get] at h
  by_cases c : j ∈ is ∧ j < δ.length
  · rw [if_pos c] at h
    refine .inl ⟨c.1, ?_⟩
    cases h
    unfold shOnly
    cases q : δ1[j]? with
    | none => exact absurd (by simp only [shOnly, q]) hs
    | some s' =>
      cases s' with
      | sh d => exact ⟨d, rfl, rfl⟩
      | un => exact absurd (by simp only [shOnly, q]) hs
      | ow ds => exact absurd (by simp only [shOnly, q]) hs
  · rw [if_neg c] at h
    exact .inr ⟨fun z => c ⟨z, (List.getElem?_eq_some_iff.mp h).1⟩, h⟩
theorem Wd.restored (w : Wd K R.free (wipe σ vs) δ Hs H) (w1 : Wd K R σ δ1 Hs1 H1) (hs : Sub Hs1 Hs) (hv : ∀ j ∈ vs, j ∈ is) : Wd K R σ (setAll δ is (is.map fun i => shOnly δ1[i]?)) Hs H where
  bs := w.bs
  sub := w.sub
  fr := w.fr
  tb := w.tb
  ns := w.ns
  dom := w.dom
  nf := w.nf
  len := by rw [setAll_len, ← w.len, wipe_length]
  sh := fun j d e => by
    rcases back_get (by intro z; cases z) e with ⟨h1, d', h2, h3⟩ | ⟨h1, h2⟩
    · cases h2
      obtain ⟨v, q1, q2⟩ := w1.sh j _ h3
      exact ⟨v, q1, q2.mono hs⟩
    · obtain ⟨v, q1, q2⟩ := w.sh j d h2
      rw [wipe_get, if_neg (fun z => h1 (hv j z.1))] at q1
      exact ⟨v, q1, q2⟩
  ow := fun j ds e => by
    rcases back_get (by intro z; cases z) e with ⟨h1, d', h2, h3⟩ | ⟨h1, h2⟩
    · cases h2
    · have := w.ow j ds h2
      rwa [wipe_get, if_neg (fun z => h1 (hv j z.1))] at this
  owA := fun a ⟨j, ds, e1, e2⟩ => by
    rcases back_get (by intro z; cases z) e1 with ⟨h1, d', h2, h3⟩ | ⟨h1, h2⟩
    · cases h2
    · exact w.owA a ⟨j, ds, h2, by rw [wipe_get, if_neg (fun z => h1 (hv j z.1))]; exact e2⟩
  dj := fun j k ds es a h1 h2 e1 e2 => by
    rcases back_get (by intro z; cases z) h1 with ⟨_, d', z, _⟩ | ⟨h3, h4⟩
    · cases z
    rcases back_get (by intro z; cases z) h2 with ⟨_, d', z, _⟩ | ⟨h5, h6⟩
    · cases z
    exact w.dj j k ds es a h4 h6 (by rw [wipe_get, if_neg (fun z => h3 (hv j z.1))]; exact e1) (by rw [wipe_get, if_neg (fun z => h5 (hv k z.1))]; exact e2)
  kp := w1.kp
theorem Own.restored {a : Addr} (hv : ∀ j ∈ vs, j ∈ is) (h : Own σ (setAll δ is (is.map fun i => shOnly δ1[i]?)) a) : Own (wipe σ vs) δ a := by
  obtain ⟨j, ds, e1, e2⟩ := h
  rcases back_get (by intro z; cases z) e1 with ⟨h1, d', h2, h3⟩ | ⟨h1, h2⟩
  · cases h2
  · exact ⟨j, ds, h2, by rw [wipe_get, if_neg (fun z => h1 (hv j z.1))]; exact e2⟩
/-- an object apart is written -/
theorem Wd.updN (w : Wd K R σ δ Hs H) {a : Addr} {o : HO} (hs : Hs a = none) (hn : ¬ Own σ δ a) (hb : R.N a) {vs0 : List V} (hl0 : H a = some (.lst vs0)) (ho : ∀ ps, o ≠ .tbl ps := by intro _ z; cases z) : Wd K R σ δ Hs (upd H a o) where
  bs := w.bs
  sub := w.sub.updR hs
  fr := fun b u e n => by
    have q : b ≠ a := fun z => by
      subst z
      rcases hb with hb | hb
      · exact n hb
      · rw [e] at hb; cases hb
    exact (w.fr b u e n).upd q
  tb := w.tb.updL hl0 ho
  ns := w.ns
  dom := fun b e => by
    by_cases q : b = a
    · subst q; rw [upd_same]; intro z; cases z
    · rw [upd_ne q]; exact w.dom b e
  nf := w.nf
  len := w.len
  sh := w.sh
  ow := fun j ds e => by
    obtain ⟨b, vs, h1, h2, h3, h4⟩ := w.ow j ds e
    have q : b ≠ a := fun z => hn ⟨j, ds, e, z ▸ h1⟩
    exact ⟨b, vs, h1, h2, by rw [upd_ne q]; exact h3, h4⟩
  owA := w.owA
  dj := w.dj
  kp := w.kp
theorem watch_ok {α : Type} {w : Option (Nat × List D)} {k : Unit → M α} {g : α → Envr → Prop} {e : Nat → D → Envr → Prop} (h : Ok ((watch w >>= k) δ) g e) : (∀ i ds, w = some (i, ds) → δ[i]? = some (.ow ds)) ∧ Ok (k () δ) g e := by
  have h := h.bindI
  unfold watch at h
  cases w with
  | none => exact ⟨fun _ _ z => (by cases z), h⟩
  | some p =>
    obtain ⟨i, ds⟩ := p
    simp only at h
    split at h
    · rename_i q
      refine ⟨fun i' ds' z => ?_, h⟩
      cases z
      exact q
    · exact h.elim
theorem noExn_ok {α : Type} {m : M α} {g : α → Envr → Prop} {e e' : Nat → D → Envr → Prop} (h : Ok (noExn m δ) g e) : Ok (m δ) g e' := by
  unfold noExn at h
  unfold Ok
  cases q : m δ with
  | ok a δ1 => rw [q] at h; exact h
  | exn c d δ1 => rw [q] at h; exact h.elim
  | bad n => rw [q] at h; exact h.elim
theorem wipe_wipe : wipe (wipe σ vs) vs = wipe σ vs := by
  apply List.ext_getElem?
  intro j
  rw [wipe_get, wipe_get, wipe_length]
  by_cases c : j ∈ vs ∧ j < σ.length
  · rw [if_pos c, if_pos c]
  · rw [if_neg c, if_neg c]
end
theorem Ok.sat {α : Type} {m : Res α} {g : α → Envr → Prop} {e : Nat → D → Envr → Prop} (h : Ok m g e) (hx : ∀ c d δ, m ≠ .exn c d δ) : ∃ a δ, g a δ := by
  cases m with
  | ok a δ => exact ⟨a, δ, h⟩
  | exn c d δ => exact absurd rfl (hx c d δ)
  | bad n => exact h.elim
theorem compL_noExn {w : Option (Nat × List D)} {f : D → M (Option D)} (hf : ∀ x δ c d δ', f x δ ≠ .exn c d δ') : ∀ (xs : List D) (δ : Envr) (c : Nat) (d : D) (δ' : Envr), compL w f xs δ ≠ .exn c d δ'
  | [], δ, c, d, δ' => by unfold compL; intro z; cases z
  | x :: xs, δ, c, d, δ' => by
    unfold compL
    intro z
    have z : M.bind (f x) (fun o => M.bind (watch w) fun _ => M.bind (compL w f xs) fun r => pure (match o with | some d => d :: r | none => r)) δ = .exn c d δ' := z
    unfold M.bind at z
    cases q : f x δ with
    | exn c1 d1 δ1 => exact hf _ _ _ _ _ q
    | bad n => rw [q] at z; cases z
    | ok o δ1 =>
      rw [q] at z
      simp only at z
      cases q2 : watch w δ1 with
      | exn c1 d1 δ2 =>
        unfold watch at q2
        cases w with
        | none => cases q2
        | some p =>
          simp only at q2
          split at q2 <;> cases q2
      | bad n => rw [q2] at z; cases z
      | ok u δ2 =>
        rw [q2] at z
        simp only at z
        cases q3 : compL w f xs δ2 with
        | exn c1 d1 δ3 => exact compL_noExn hf xs _ _ _ _ q3
        | bad n => rw [q3] at z; cases z
        | ok r δ3 => rw [q3] at z; cases z
theorem noExn_no {α : Type} {m : M α} {δ : Envr} {c : Nat} {d : D} {δ' : Envr} : noExn m δ ≠ .exn c d δ' := by
  unfold noExn
  cases q : m δ <;> simp
section
variable {X : Cx} {R : Rg} {C : Nat → Addr} {W W0 : WX} {cf : CF} {vs : List Nat} {tg : Tg}
theorem comp_go {it : It} {cs : Exs} {e : Ex} {σ : L2.St} {H : Hp} {Q : VK} (hv1 : ∀ j ∈ vs, j ∈ tg.slots) (hv2 : ∀ j ∈ tg.slots, j ∈ vs) (h : tE X.K R C W (ev cf (.comp tg it cs e)) σ H Q) :
    tLc (tI X.K R C W (evI cf it)) (tg.g X.K) (tT X.K R.free C W0 (evC cf cs)) (tE X.K R.free C W0 (ev cf e)) vs σ H Q := by
  obtain ⟨Hs, δ, wd, h⟩ := h
  rw [ev] at h
  refine ⟨Hs, δ, wd, h.bindI.imp (fun p δ1 hr J Hs1 H1 src w1 g1 ito so L0 hD => ?_) fun _ _ _ x => x⟩
  obtain ⟨xs, w⟩ := p
  simp only at hr ito so
  have hr := Ok.bindI hr
  unfold Tg.aside at hr
  obtain ⟨hw, hr⟩ := watch_ok (show Ok _ _ _ from hr)
  have hr := Ok.bindI hr
  generalize hδ2 : setAll δ1 tg.slots (tg.slots.map fun _ => SV.un) = δ2 at hr hw
  generalize hf : (fun x => noExn (tg.put x >>= fun _ => evC cf cs >>= fun b => (if b = true then ev cf e >>= fun re => esc re >>= fun d => pure (some d) else pure none) >>= fun o => tg.clear >>= fun _ => pure o : M (Option D)) : D → M (Option D)) = f at hr
  have hfx : ∀ x δ c d δ', f x δ ≠ .exn c d δ' := fun x δ c d δ' => by rw [← hf]; exact noExn_no
  have w2 : Wd X.K R.free (wipe σ vs) δ2 Hs1 H1 := by rw [← hδ2]; exact w1.wiped hv1
  have o12 : ∀ a, Own (wipe σ vs) δ2 a → Own σ δ1 a := fun a h => by rw [← hδ2] at h; exact Own.wiped hv1 h
  generalize hF : (fun (r : List D) δ' => Ok ((tg.backs (tg.slots.map fun i => shOnly δ1[i]?) >>= fun _ => if r.length ≤ lim then pure (.nw r) else fail 28 : M Rs) δ') (fun r δ' => ∀ v Hs' H', Post X.K R σ δ Hs H δ' Hs' H' v r → Q v H') (Xc X.K R C W σ)) = Fin at hr
  let Iv : Nat → Hp → Prop := fun k Hk => k ≤ xs.length ∧ ∃ (δk : Envr) (Hsk : Hp) (acc : List V) (ads : List D), Wd X.K R.free (wipe σ vs) δk Hsk Hk ∧ Go (wipe σ vs) δ2 Hs1 H1 δk Hsk Hk ∧ Hk L0 = some (.lst acc) ∧ Hsk L0 = none ∧ ¬ Own (wipe σ vs) δk L0 ∧ DqAll X.K R.N Hsk acc ads ∧
    (∀ i ds, w = some (i, ds) → δk[i]? = some (.ow ds)) ∧ Ok (compL w f (xs.drop k) δk) (fun r δ' => Fin (ads ++ r) δ') (Xc X.K R C W σ)
  have hNo : ∀ {δk Hsk Hk}, Go (wipe σ vs) δ2 Hs1 H1 δk Hsk Hk → ¬ Own (wipe σ vs) δk L0 := fun g h => by
    have := w2.notOwn hD
    exact this (g.ow L0 h)
  have hRN : R.N L0 := w1.newN hD
  refine ⟨fun k m Hk => m = xs.length - k ∧ Iv k Hk, ⟨_, rfl, Nat.zero_le _, δ2, Hs1, [], [], w2.ext (.newO w2.sub hD), (Ext.newO w2.sub hD).go, upd_same, w2.sub.back hD, w2.notOwn hD, .nil, hw, hr⟩, ?_⟩
  rintro k m Hk ⟨rfl, hk, δk, Hsk, acc, ads, wk, gk, hDk, hDs, hDo, hac, hwk, hck⟩
  have hsrc : ∀ p, src = some p → Src X.K R.N Hsk Hk p.1 p.2 := fun p hp => by
    subst hp
    cases w with
    | none => exact so.elim
    | some q =>
      obtain ⟨i, ds⟩ := q
      obtain ⟨a, ds'⟩ := p
      obtain ⟨e1, e2, e3⟩ := so
      subst e1
      have h1 := hwk i ds rfl
      obtain ⟨b, us, q1, q2, q3, q4⟩ := wk.ow i ds h1
      have h2 := hw i ds rfl
      have hni : i ∉ vs := fun z => by
        rw [← hδ2] at h2
        exact (emptied_sh (by intro z; cases z) h2).1 (hv1 i z)
      rw [wipe_get, if_neg (fun z => hni z.1), e2] at q1
      cases q1
      exact ⟨us, .of q3, q4⟩
  have iok := ito Hsk Hk gk.hs wk.sub hsrc k
  by_cases hlt : k < xs.length
  · right
    obtain ⟨hgo, hyld⟩ := iok.1 xs[k] (List.getElem?_eq_getElem hlt)
    refine ⟨hgo, Iv (k + 1), fun H' iv => ⟨xs.length - (k + 1), by omega, rfl, iv⟩, fun y H' hy => ?_⟩
    obtain ⟨Hs', ex, hdy⟩ := hyld y H' hy
    rw [List.drop_eq_getElem_cons hlt, compL] at hck
    have hc := noExn_ok (e' := fun _ _ _ => False) (by have := hck.bindI; rw [← hf] at this; exact this)
    rw [hf] at hc
    have wx := wk.ext ex
    have next : ∀ {σ2 : L2.St} {δ3 δ4 : Envr} {Hs4 H4 : Hp} {acc' : List V} {ads' : List D} {o : Option D}, Wd X.K R.free σ2 δ4 Hs4 H4 → Go σ2 δ3 Hs' H' δ4 Hs4 H4 → (∀ a, Own σ2 δ3 a → Own (wipe σ vs) δk a) → wipe σ2 vs = wipe σ vs →
        DqAll X.K R.N Hs4 acc' ads' → ads' = ads ++ o.toList → Ok ((watch w >>= fun _ => compL w f (xs.drop (k + 1)) >>= fun r => pure (match o with | some d => d :: r | none => r) : M (List D)) (setAll δ4 tg.slots (tg.slots.map fun _ => .un))) (fun r δ' => Fin (ads ++ r) δ') (Xc X.K R C W σ) →
        H4 L0 = some (.lst acc) ∧ acc'.length ≤ lim ∧ (acc' = acc → Iv (k + 1) H4) ∧ Iv (k + 1) (upd H4 L0 (.lst acc')) := by
      intro σ2 δ3 δ4 Hs4 H4 acc' ads' o w4 g4 o3 hwp ha' he hcn
      have nD : ¬ Own σ2 δ3 L0 := fun z => hDo (o3 L0 z)
      have hD' : H' L0 = some (.lst acc) := ex.hh _ _ hDk
      have hD4 : H4 L0 = some (.lst acc) := (g4.fr L0 _ hD' nD).lst
      have hDs' : Hs' L0 = none := Classical.byContradiction fun n => by
        have := ex.nf L0 hDs n
        rw [hDk] at this; cases this
      have hDs4 : Hs4 L0 = none := Classical.byContradiction fun n => by
        rcases g4.nf L0 hDs' n with z | z
        · rw [hD'] at z; cases z
        · exact nD z
      have w5 : Wd X.K R.free (wipe σ vs) (setAll δ4 tg.slots (tg.slots.map fun _ => .un)) Hs4 H4 := by
        have := w4.wiped (vs := vs) (is := tg.slots) hv1
        rw [hwp] at this
        exact this
      have o5 : ∀ a, Own (wipe σ vs) (setAll δ4 tg.slots (tg.slots.map fun _ => .un)) a → Own (wipe σ vs) δk a := fun a h => by
        rw [← hwp] at h
        exact o3 a (g4.ow a (Own.wiped hv1 h))
      have g5 : Go (wipe σ vs) δk Hs' H' (setAll δ4 tg.slots (tg.slots.map fun _ => .un)) Hs4 H4 :=
        ⟨g4.hs, fun b u e n => g4.fr b u e fun z => n (o3 b z), fun b h n => (g4.nf b h n).imp id (o3 b), o5⟩
      have G : Go (wipe σ vs) δ2 Hs1 H1 (setAll δ4 tg.slots (tg.slots.map fun _ => .un)) Hs4 H4 := (gk.trans ex.go).trans g5
      obtain ⟨hw', hcn⟩ := watch_ok hcn
      have hcn := Ok.bindI hcn
      have hcn : Ok (compL w f (xs.drop (k + 1)) (setAll δ4 tg.slots (tg.slots.map fun _ => .un))) (fun r δ' => Fin (ads' ++ r) δ') (Xc X.K R C W σ) := hcn.imp (fun r δ' z => by
        rw [he, List.append_assoc]
        cases o with
        | none => exact z
        | some d => exact z) fun _ _ _ x => x
      obtain ⟨r, δr, hF'⟩ := hcn.sat (fun c d δ' => compL_noExn hfx _ _ _ _ _)
      have hle : (ads' ++ r).length ≤ lim := by
        rw [← hF] at hF'
        have hF' := Ok.bindI hF'
        unfold Tg.backs at hF'
        have hF' : Ok ((if (ads' ++ r).length ≤ lim then pure (.nw (ads' ++ r)) else fail 28 : M Rs) _) _ _ := hF'
        split at hF'
        · assumption
        · exact hF'.elim
      have hle2 : acc'.length ≤ lim := by rw [ha'.length]; rw [List.length_append] at hle; omega
      refine ⟨hD4, hle2, fun e => ?_, ?_⟩
      · subst e
        exact ⟨hlt, _, Hs4, acc', ads', w5, G, hD4, hDs4, fun z => hDo (o5 L0 z), ha', hw', hcn⟩
      · refine ⟨hlt, _, Hs4, acc', ads', w5.updN hDs4 (fun z => hDo (o5 L0 z)) hRN hD4, ⟨G.hs, fun b u e n => ?_, G.nf, G.ow⟩, upd_same, hDs4, fun z => hDo (o5 L0 z), ha', hw', hcn⟩
        have q : b ≠ L0 := fun z => by rw [z, hD] at e; cases e
        exact (G.fr b u e n).upd q
    refine put_go (R := R.free) (fun i _ z => by cases z) wx hdy hc fun σ2 δ3 w3 o3 z3 k3 => ?_
    have hwp : wipe σ2 vs = wipe σ vs := by rw [z3 vs hv2, wipe_wipe]
    refine ⟨hwp, Hs', δ3, w3, (Ok.bindI k3).imp (fun b δ4 hb Hs4 H4 w4 g4 => ?_) fun _ _ _ x => x.elim⟩
    cases b with
    | false =>
      rw [if_neg (by simp)] at hb
      have := next (o := none) w4 g4 o3 hwp (hac.mono (ex.hs.trans g4.hs)) (by simp) hb
      exact this.2.2.1 rfl
    | true =>
      rw [if_pos rfl] at hb
      rw [if_pos rfl]
      rw [bindA] at hb
      refine ⟨Hs4, δ4, w4, (Ok.bindI hb).imp (fun r δ5 hr5 v Hs5 H5 p5 => ?_) fun _ _ _ x => x.elim⟩
      obtain ⟨Hs6, w6, g6, op6, _⟩ := p5.opd
      rw [bindA] at hr5
      obtain ⟨d, δ7, Hs7, w7, g7, hd, k7⟩ := esc_ok w6 op6 hr5
      have := next (acc' := acc ++ [v]) (ads' := ads ++ [d]) (o := some d) w7 ((g4.trans g6).trans g7) o3 hwp ((hac.mono (((ex.hs.trans g4.hs).trans g6.hs).trans g7.hs)).app (.cons hd .nil)) rfl k7
      refine ⟨acc, this.1, ?_, this.2.2.2⟩
      have hl := this.2.1
      rw [List.length_append, List.length_singleton] at hl
      exact limT (by omega)
  · left
    have hk' : k = xs.length := by omega
    refine ⟨iok.2 (by omega), ?_⟩
    rw [hk', List.drop_length, compL] at hck
    have hck : Fin (ads ++ []) δk := hck
    rw [List.append_nil, ← hF] at hck
    have hck := Ok.bindI hck
    unfold Tg.backs at hck
    have hck : Ok ((if ads.length ≤ lim then pure (.nw ads) else fail 28 : M Rs) (setAll δk tg.slots (tg.slots.map fun i => shOnly δ1[i]?))) (fun r δ' => ∀ v Hs' H', Post X.K R σ δ Hs H δ' Hs' H' v r → Q v H') (Xc X.K R C W σ) := hck
    split at hck
    · refine hck (.ref L0) Hsk Hk (Post.trans (v' := .non) (r' := .fz .non) g1 ⟨wk.restored w1 gk.hs hv1, ⟨gk.hs, fun b u e n => gk.fr b u e fun z => n (o12 b z), fun b h n => (gk.nf b h n).imp id (o12 b), fun b h => o12 b (gk.ow b (Own.restored hv1 h))⟩, ⟨L0, acc, rfl, hDs, hDk, hac, fun z => hDo (Own.restored hv1 z), hRN⟩, fun _ _ _ z => ?_⟩)
      cases z
      exact .inl hD
    · exact hck.elim
end
end Rf
set_option linter.all false
set_option maxRecDepth 100000
set_option maxHeartbeats 1000000
set_option Elab.async false
/-! Rf soundness, part 14: comprehensions as expressions, pop, calls. -/
namespace Rf
open PySem PySem.Spec PyProof.Rows L2
/-! ### arguments -/
theorem nIo_zero : ∀ {as : List Arg} {k i : Nat}, nIo as = 0 → as[k]? = some (.s i) → False
  | a :: r, 0, i, h, e => by
    cases (Option.some.inj e)
    unfold nIo at h
    rw [List.countP_cons] at h
    simp [isIo] at h
  | a :: r, k + 1, i, h, e => by
    unfold nIo at h
    rw [List.countP_cons] at h
    exact nIo_zero (as := r) (k := k) (i := i) (by unfold nIo; omega) (by simpa using e)
theorem nIo_one : ∀ {as : List Arg} {k l i j : Nat}, nIo as ≤ 1 → as[k]? = some (.s i) → as[l]? = some (.s j) → k = l
  | a :: r, 0, 0, _, _, _, _, _ => rfl
  | a :: r, 0, l + 1, i, j, h, e, e' => by
    cases (Option.some.inj e)
    unfold nIo at h
    rw [List.countP_cons] at h
    simp only [isIo, if_true] at h
    exact (nIo_zero (as := r) (k := l) (i := j) (by unfold nIo; omega) (by simpa using e')).elim
  | a :: r, k + 1, 0, i, j, h, e, e' => by
    cases (Option.some.inj e')
    unfold nIo at h
    rw [List.countP_cons] at h
    simp only [isIo, if_true] at h
    exact (nIo_zero (as := r) (k := k) (i := i) (by unfold nIo; omega) (by simpa using e)).elim
  | a :: r, k + 1, l + 1, i, j, h, e, e' => by
    have h : nIo r ≤ 1 := by unfold nIo at h ⊢; rw [List.countP_cons] at h; omega
    exact congrArg (· + 1) (nIo_one (i := i) (j := j) h (by simpa using e) (by simpa using e'))
theorem oneIo_n {as : List Arg} (h : oneIo as = true) : nIo as ≤ 1 := of_decide_eq_true h
theorem argsOk_get {K : Fg} {N : Addr → Prop} {Hs : Hp} {σ : L2.St} : ∀ {vs : List V} {as : List Arg} {k : Nat} {a : Arg}, ArgsOk K N Hs σ vs as → as[k]? = some a → ∃ v, vs[k]? = some v ∧ (match a with | .v d => Dq K N Hs v d | .s i => σ[i]? = some (some v))
  | _, _, 0, a, .v h1 h2, e => by cases (Option.some.inj e); exact ⟨_, rfl, h1⟩
  | _, _, 0, a, .s h1 h2, e => by cases (Option.some.inj e); exact ⟨_, rfl, h1⟩
  | _, _, k + 1, a, .v h1 h2, e => argsOk_get (k := k) h2 (by simpa using e)
  | _, _, k + 1, a, .s h1 h2, e => argsOk_get (k := k) h2 (by simpa using e)
theorem ArgsOk.length {K : Fg} {N : Addr → Prop} {Hs : Hp} {σ : L2.St} : ∀ {vs : List V} {as : List Arg}, ArgsOk K N Hs σ vs as → vs.length = as.length
  | _, _, .nil => rfl
  | _, _, .v _ h => by simp [h.length]
  | _, _, .s _ h => by simp [h.length]
theorem argsSV_get {δ : Envr} : ∀ {as : List Arg} {svs : List SV}, argsSV δ as = some svs → svs.length = as.length ∧ ∀ (k : Nat) (s : SV), svs[k]? = some s → ∃ a, as[k]? = some a ∧ argSV δ a = some s
  | [], svs, h => by cases h; exact ⟨rfl, fun k s e => by simp at e⟩
  | a :: r, svs, h => by
    unfold argsSV at h
    cases q1 : argSV δ a with
    | none => rw [q1] at h; cases h
    | some v =>
      cases q2 : argsSV δ r with
      | none => rw [q1, q2] at h; cases h
      | some ws =>
        rw [q1, q2] at h
        cases h
        obtain ⟨h1, h2⟩ := argsSV_get q2
        refine ⟨by simp [h1], fun k s e => ?_⟩
        cases k with
        | zero => cases (Option.some.inj e); exact ⟨a, rfl, q1⟩
        | succ k => simpa using h2 k s (by simpa using e)
theorem putBack_none : ∀ {as : List Arg} {ws : List SV} {δ : Envr}, (∀ (k i : Nat), as[k]? ≠ some (Arg.s i)) → putBack as ws δ = δ
  | [], ws, δ, _ => by unfold putBack; rfl
  | .s i :: r, ws, δ, h => absurd rfl (h 0 i)
  | .v d :: r, [], δ, h => by simp [putBack]
  | .v d :: r, w :: ws, δ, h => by
    unfold putBack
    exact putBack_none fun k i e => h (k + 1) i (by simpa using e)
theorem putBack_one : ∀ {as : List Arg} {ws : List SV} {δ : Envr} {k i : Nat} {w : SV}, nIo as ≤ 1 → as[k]? = some (.s i) → ws[k]? = some w → putBack as ws δ = δ.set i w
  | .s j :: r, v :: ws, δ, 0, i, w, h, e, e' => by
    cases (Option.some.inj e)
    cases (Option.some.inj e')
    unfold putBack
    refine putBack_none fun k l z => ?_
    have := nIo_one (k := 0) (l := k + 1) h e (by simpa using z)
    cases this
  | .v d :: r, v :: ws, δ, 0, i, w, h, e, e' => by cases (Option.some.inj e)
  | .s j :: r, v :: ws, δ, k + 1, i, w, h, e, e' => by
    have := nIo_one (k := 0) (l := k + 1) (i := j) h rfl e
    cases this
  | .v d :: r, v :: ws, δ, k + 1, i, w, h, e, e' => by
    unfold putBack
    have h : nIo r ≤ 1 := by unfold nIo at h ⊢; rw [List.countP_cons] at h; omega
    exact putBack_one h (by simpa using e) (by simpa using e')
  | _, [], _, _, _, _, _, _, e' => by simp at e'
  | [], _ :: _, _, _, _, _, _, e, _ => by simp at e
/-! ### a call seen from both sides -/
def entryR (vs : List V) (as : List SV) (Hs H : Hp) : Rg := { B := H, Bs := Hs, A := Own (vs.map some) as, σb := vs.map some, β := as, nas := [] }
/-- what a def promises: G its run -/
def spOf (K : Fg) (C : Nat → Addr) (G : List SV → FR) : Sp := fun vs H Q E => ∃ (Hs : Hp) (as : List SV), Wd K (entryR vs as Hs H) (vs.map some) as Hs H ∧
  (match G as with
  | .ret r ws => (∀ i, r ≠ .sl i) ∧ ∀ v Hs' H', Wd K (entryR vs as Hs H) (vs.map some) ws Hs' H' → RsOk K (entryR vs as Hs H) Hs' H' (vs.map some) ws v r → (∀ a, Own (vs.map some) ws a → Own (vs.map some) as a) → Q v H'
  | .exn c d ws => ∀ a v Hs' H', Wd K (entryR vs as Hs H) (vs.map some) ws Hs' H' → H' a = some (.xd [(("value" : Str), v)]) → Dq K (entryR vs as Hs H).N Hs' v d → (∀ a, Own (vs.map some) ws a → Own (vs.map some) as a) → E (.ref (C c)) (some a) H'
  | .bad _ => False)
section
variable {K : Fg} {R : Rg} {C : Nat → Addr} {W : WX} {σ : L2.St} {δ : Envr} {Hs H : Hp}
theorem DqAll.ages' {N N' : Addr → Prop} {ds : List D} {vs : List V} (h : DqAll K N Hs vs ds) : DqAll K N' Hs vs (D.ages ds) := h.aged
theorem map_some_get {vs : List V} {k : Nat} {v : V} : (vs.map some)[k]? = some (some v) ↔ vs[k]? = some v := by
  rw [List.getElem?_map]
  cases vs[k]? <;> simp
/-- the arguments as they lie at the entry -/
theorem entry_wd {as : List Arg} {svs : List SV} {vs : List V} (w : Wd K R σ δ Hs H) (ha : ArgsOk K R.N Hs σ vs as) (h1 : nIo as ≤ 1) (he : argsSV δ as = some svs) : Wd K (entryR vs svs Hs H) (vs.map some) svs Hs H := by
  obtain ⟨hl, hg⟩ := argsSV_get he
  exact {
    bs := .refl _
    sub := w.sub
    fr := fun b o h _ => .inl h
    tb := w.tb
    ns := w.ns
    dom := fun b h => h
    nf := fun b h => .inl h
    len := by rw [List.length_map, ha.length, hl]
    sh := fun k d e => by
      obtain ⟨a, e1, e2⟩ := hg k _ e
      obtain ⟨v, q1, q2⟩ := argsOk_get ha e1
      cases a with
      | v d' =>
        cases e2
        exact ⟨v, map_some_get.mpr q1, q2.aged⟩
      | s i =>
        simp only [argSV] at e2
        split at e2 <;> cases e2
    ow := fun k ds e => by
      obtain ⟨a, e1, e2⟩ := hg k _ e
      obtain ⟨v, q1, q2⟩ := argsOk_get ha e1
      cases a with
      | v d' => cases e2
      | s i =>
        simp only [argSV] at e2
        split at e2 <;> cases e2
        rename_i ds' hd
        obtain ⟨b, us, q3, q4, q5, q6⟩ := w.ow i ds' hd
        have q2 : σ[i]? = some (some v) := q2
        rw [q2] at q3; cases q3
        exact ⟨b, us, map_some_get.mpr q1, q4, q5, q6.aged⟩
    owA := fun a h => .inl h
    dj := fun k l ds es a e1 e2 _ _ => by
      obtain ⟨b, f1, f2⟩ := hg k _ e1
      obtain ⟨c, f3, f4⟩ := hg l _ e2
      cases b with
      | v d => cases f2
      | s i =>
        cases c with
        | v d => cases f4
        | s j => exact nIo_one h1 f1 f3
    kp := fun j hj => by cases hj }
/-- an address owned at the entry is the slot's own -/
theorem entry_own {as : List Arg} {svs : List SV} {vs : List V} {a : Addr} (w : Wd K R σ δ Hs H) (ha : ArgsOk K R.N Hs σ vs as) (he : argsSV δ as = some svs) (h : Own (vs.map some) svs a) : ∃ (k i : Nat) (ds : List D), as[k]? = some (Arg.s i) ∧ vs[k]? = some (V.ref a) ∧ σ[i]? = some (some (V.ref a)) ∧ δ[i]? = some (SV.ow ds) := by
  obtain ⟨hl, hg⟩ := argsSV_get he
  obtain ⟨k, ds, e1, e2⟩ := h
  obtain ⟨b, f1, f2⟩ := hg k _ e1
  obtain ⟨v, q1, q2⟩ := argsOk_get ha f1
  rw [map_some_get, q1] at e2
  cases e2
  cases b with
  | v d => cases f2
  | s i =>
    simp only [argSV] at f2
    split at f2 <;> cases f2
    rename_i ds' hd
    exact ⟨k, i, ds', f1, q1, q2, hd⟩
/-- back in the caller -/
theorem back_wd {as : List Arg} {svs ws : List SV} {vs : List V} {Hs' H' : Hp} (w : Wd K R σ δ Hs H) (ha : ArgsOk K R.N Hs σ vs as) (h1 : nIo as ≤ 1) (he : argsSV δ as = some svs) (w' : Wd K (entryR vs svs Hs H) (vs.map some) ws Hs' H') (ho : ∀ a, Own (vs.map some) ws a → Own (vs.map some) svs a) :
    Wd K R σ (putBack as ws δ) Hs' H' ∧ Go σ δ Hs H (putBack as ws δ) Hs' H' ∧ (∀ a, (entryR vs svs Hs H).N a → R.N a) ∧ (∀ a, Own σ (putBack as ws δ) a → Own (vs.map some) ws a ∨ (∃ o, H a = some o ∧ ¬ (entryR vs svs Hs H).N a)) := by
  have hwl : ws.length = as.length := by rw [← w'.len, List.length_map, ha.length]
  have ownd : ∀ a, Own (vs.map some) svs a → Own σ δ a := fun a h => by
    obtain ⟨k, i, ds, _, _, h3, h4⟩ := entry_own w ha he h
    exact ⟨i, ds, h4, h3⟩
  have hN : ∀ a, (entryR vs svs Hs H).N a → R.N a := fun a h => by
    rcases h with h | h
    · exact w.owA a (ownd a h)
    · exact w.newN h
  -- the slots, one by one
  have slot : ∀ (j : Nat) (s : SV), s ≠ .un → (putBack as ws δ)[j]? = some s → (∃ (k : Nat) (v : V), as[k]? = some (Arg.s j) ∧ ws[k]? = some s ∧ vs[k]? = some v ∧ σ[j]? = some (some v)) ∨ (δ[j]? = some s ∧ ∀ k : Nat, as[k]? ≠ some (Arg.s j)) := by
    intro j s hs e
    by_cases c : ∃ (k i : Nat), as[k]? = some (Arg.s i)
    · obtain ⟨k, i, hk⟩ := c
      have hkl : k < ws.length := by rw [hwl]; exact (List.getElem?_eq_some_iff.mp hk).1
      rw [putBack_one h1 hk (List.getElem?_eq_getElem hkl)] at e
      rcases get_set e with ⟨rfl, z⟩ | ⟨q, z⟩
      · obtain ⟨v, q1, q2⟩ := argsOk_get ha hk
        exact .inl ⟨k, v, hk, by rw [z]; exact List.getElem?_eq_getElem hkl, q1, q2⟩
      · refine .inr ⟨z, fun l hl => ?_⟩
        have := nIo_one h1 hk hl
        subst this
        rw [hk] at hl
        cases hl
        exact q rfl
    · have : ∀ (k i : Nat), as[k]? ≠ some (Arg.s i) := fun k i h => c ⟨k, i, h⟩
      rw [putBack_none this] at e
      exact .inr ⟨e, fun k => this k j⟩
  have other : ∀ (j : Nat) (ds : List D) (a : Addr), δ[j]? = some (SV.ow ds) → (∀ k : Nat, as[k]? ≠ some (Arg.s j)) → σ[j]? = some (some (V.ref a)) → ¬ Own (vs.map some) svs a := fun j ds a e n e2 z => by
    obtain ⟨k, i, ds', q1, q2, q3, q4⟩ := entry_own w ha he z
    have := w.dj j i ds ds' a e q4 e2 q3
    exact n k (this ▸ q1)
  have plen : (putBack as ws δ).length = δ.length := by
    by_cases c : ∃ (k i : Nat), as[k]? = some (Arg.s i)
    · obtain ⟨k, i, hk⟩ := c
      have hkl : k < ws.length := by rw [hwl]; exact (List.getElem?_eq_some_iff.mp hk).1
      rw [putBack_one h1 hk (List.getElem?_eq_getElem hkl), List.length_set]
    · rw [putBack_none fun k i h => c ⟨k, i, h⟩]
  have hs' : Sub Hs Hs' := w'.bs
  have ownN : ∀ a, Own σ (putBack as ws δ) a → Own (vs.map some) ws a ∨ (∃ o, H a = some o ∧ ¬ (entryR vs svs Hs H).N a ∧ Own σ δ a) := fun a ⟨j, ds, e1, e2⟩ => by
    rcases slot j _ (by intro z; cases z) e1 with ⟨k, v, f1, f2, f3, f4⟩ | ⟨f1, f2⟩
    · rw [e2] at f4; cases f4
      exact .inl ⟨k, ds, f2, map_some_get.mpr f3⟩
    · right
      obtain ⟨b, us, q1, q2, q3, q4⟩ := w.ow j ds f1
      rw [e2] at q1; cases q1
      refine ⟨_, q3, fun z => ?_, ⟨j, ds, f1, e2⟩⟩
      rcases z with z | z
      · exact other j ds a f1 f2 e2 z
      · have z : H a = none := z
        rw [q3] at z; cases z
  refine ⟨?_, ⟨hs', fun b o e n => w'.fr b o e fun z => n (ownd b z), fun a h n => ?_, fun a h => ?_⟩, hN, fun a h => (ownN a h).imp id fun ⟨o, h1, h2, _⟩ => ⟨o, h1, h2⟩⟩
  · exact {
      bs := w.bs.trans hs'
      sub := w'.sub
      tb := w'.tb
      ns := w'.ns
      fr := fun b o e n => (w.fr b o e n).trans fun o1 e1 => w'.fr b o1 e1 fun z => by
        rcases w.owA b (ownd b z) with q | q
        · exact n q
        · rw [e] at q; cases q
      dom := fun b e => w'.dom b (w.dom b e)
      nf := fun b e => by
        rcases w'.nf b e with q | q
        · exact w.nf b q
        · exact .inr (hN b q)
      len := by rw [plen]; exact w.len
      sh := fun j d e => by
        rcases slot j _ (by intro z; cases z) e with ⟨k, v, f1, f2, f3, f4⟩ | ⟨f1, f2⟩
        · obtain ⟨u, q1, q2⟩ := w'.sh k d f2
          rw [map_some_get, f3] at q1; cases q1
          exact ⟨v, f4, q2.base hN⟩
        · obtain ⟨u, q1, q2⟩ := w.sh j d f1
          exact ⟨u, q1, q2.mono hs'⟩
      ow := fun j ds e => by
        rcases slot j _ (by intro z; cases z) e with ⟨k, v, f1, f2, f3, f4⟩ | ⟨f1, f2⟩
        · obtain ⟨a, us, q1, q2, q3, q4⟩ := w'.ow k ds f2
          rw [map_some_get, f3] at q1; cases q1
          exact ⟨a, us, f4, q2, q3, q4.base hN⟩
        · obtain ⟨a, us, q1, q2, q3, q4⟩ := w.ow j ds f1
          have no := other j ds a f1 f2 q1
          refine ⟨a, us, q1, Classical.byContradiction fun z => ?_, (w'.fr a _ q3 no).lst, q4.mono hs'⟩
          rcases w'.nf a z with q | q
          · exact q q2
          · rcases q with q | q
            · exact no q
            · have q : H a = none := q
              rw [q3] at q; cases q
      owA := fun a h => by
        rcases ownN a h with q | ⟨_, _, _, q⟩
        · exact hN a (w'.owA a q)
        · exact w.owA a q
      dj := fun i j ds es a e1 e2 g1 g2 => by
        rcases slot i _ (by intro z; cases z) e1 with ⟨k, v, f1, f2, f3, f4⟩ | ⟨f1, f2⟩
        · rcases slot j _ (by intro z; cases z) e2 with ⟨l, u, k1, k2, k3, k4⟩ | ⟨k1, k2⟩
          · have := nIo_one h1 f1 k1
            subst this
            rw [f1] at k1
            cases k1; rfl
          · rw [g1] at f4; cases f4
            exact absurd (ho a ⟨k, ds, f2, map_some_get.mpr f3⟩) (other j es a k1 k2 g2)
        · rcases slot j _ (by intro z; cases z) e2 with ⟨l, u, k1, k2, k3, k4⟩ | ⟨k1, k2⟩
          · rw [g2] at k4; cases k4
            exact absurd (ho a ⟨l, es, k2, map_some_get.mpr k3⟩) (other i ds a f1 f2 g1)
          · exact w.dj i j ds es a f1 k1 g1 g2
      kp := w.kp }
  · rcases w'.nf a n with q | q
    · exact absurd h q
    · rcases q with q | q
      · exact .inr (ownd a q)
      · exact .inl q
  · rcases ownN a h with q | ⟨_, _, _, q⟩
    · exact ownd a (ho a q)
    · exact q
end
end Rf
set_option linter.all false
set_option maxRecDepth 100000
set_option maxHeartbeats 2000000
set_option Elab.async false
/-! Rf soundness, part 14g: a def's promise where no guard stands (for repr). -/
namespace Rf
open PySem PySem.Spec PyProof.Rows L2
/-- no guard stands -/
def NoGd (Z : Around) : Prop := Z.guards = some []
theorem NoGd.deeper {Z : Around} {e : Env} (h : NoGd Z) : NoGd (Z.deeper e) := h
structure FnG (P : Program) (w : World) (K : Fg) (mg : Str → Option Value) (base : Heap) (CX : CXT) (k : Nat) (f : Addr) (fd : FuncData) (ps : List Str) (sp : Sp) : Prop where
  len : ∀ vs H Q E, sp vs H Q E → vs.length = ps.length
  go : ∀ (Z : Around) (out : List Env) (s : Shared) (H : Hp) (ar : Args) (us : List Value) (vs : List V) (Q : VK) (E : XK), NoGd Z → Room k Z → Env0 P w K mg base Z out s H → BindsTo s fd ar (ps.zip us) → Vals vs us → sp vs H Q E →
    codeAny (model P w) Z (.call (.ref f) ar) (CR CX out P w H s Q E) s
theorem fnG_of {CX : CXT} {P : Program} {w : World} {K : Fg} {mg : Str → Option Value} {base : Heap} {x qual : Str} {params : Arguments} {body : List Stmt} {sc : Scope} {dvs : List V} {kwd : List (Str × V)} {f : Addr} {fd : FuncData} {N ps : List Str} {k : Nat} {sp : Sp}
    (F : FunD K x qual params body sc dvs kwd f fd) (S : FnScope N ps sc) (hlen : ∀ vs H Q E, sp vs H Q E → vs.length = ps.length)
    (hb : ∀ (cdv : Value), (∃ oc od dV kV doc pm an ct osl, K.lookup f = some ⟨oc, od, .func (PySem.W.fnOf x qual params body sc dV kV doc pm an cdv ct), osl⟩) → ∀ (Z : Around) (out : List Env) (s : Shared) (H : Hp) (vs : List V) (Q : VK) (E : XK), NoGd Z → Room k (Z.deeper (envOfC qual sc s.heap.objs.size f cdv)) → sp vs H Q E →
      ∃ t, PSs (cxOf CX P w K mg base N qual sc f cdv Z out s H E) body t ∧ t { nx := fun _ H' => Q .non H', rt := Q } (L2.start N vs) H) : FnG P w K mg base CX (k + 1) f fd ps sp := by
  obtain ⟨oc, od, dV, kV, doc, pm, an, cdv, ct, osl, rfl, lk, hcd, _, _⟩ := F.ex
  refine ⟨hlen, fun Z out s H ar us vs Q E hg hr e0 bt rv hsp => ?_⟩
  have nl := hlen vs H Q E hsp
  have KI : K.In s.heap := e0.mod.kin.keeps fun b o z => (e0.bs b o z).1
  have nolim : s.heap.NoLimit := e0.mod.nolimit.keeps fun b o z => (e0.bs b o z).1
  have kinds : ∀ y ∈ ps.zip us, sc.names.lookup y.1 = some .local ∨ (sc.names.lookup y.1 = some .cell ∧ ((cellsFrom (s.heap.objs.size + 1) sc.names []).lookup y.1).isSome = true) := by
    rintro ⟨n, v⟩ hy
    rcases S.par n (List.of_mem_zip hy).1 with q | q
    · exact Or.inl q
    · exact Or.inr ⟨q, PySem.W.cellsFrom_some _ _ _ (Or.inl q)⟩
  apply codeAny_call_function hr.depth (KI _ _ lk) rfl S.co S.gen rfl (PySem.W.codeRec_of KI hcd)
  apply bt
  apply wpAny_newFunctionEnv_cells S.kind kinds
  rintro env rfl s1 ic
  refine ⟨nolim.keeps ic.toInCall.keep, codeAny_func ?_⟩
  obtain ⟨t, ht, hq⟩ := hb cdv ⟨oc, od, dV, kV, doc, pm, an, ct, osl, lk⟩ Z out s H vs Q E hg (hr.deeper _) hsp
  have J := inv_start (CX := CX) (P := P) (w := w) (K := K) (mg := mg) (base := base) (E := E) S hr.hd e0 nl rv ic
  have fin : ∀ {σ' : L2.St} {H' : Hp} {v : V} {u : Value} {s' : Shared}, Inv (cxOf CX P w K mg base N qual sc f cdv Z out s H E) [] σ' H' s' → RelV v u → Q v H' → CE out P w H s Q u s' :=
    fun I r q => ⟨_, _, I.os, I.bare, I.base, I.hok, r, q⟩
  refine wpAny_mono (ht.run [] s1 (L2.start N vs) H _ J hq) (fun fl s' z => ?_) (fun _ _ z => z)
  cases fl with
  | next =>
    obtain ⟨σ', H', I, q⟩ := z
    exact fin (v := .non) (u := .none) I rfl q
  | ret u =>
    obtain ⟨v, σ', H', I, r, q⟩ := z
    exact fin I r q
  | brk => exact z.choose_spec.choose_spec.2.elim
  | cont => exact z.choose_spec.choose_spec.2.elim
section
variable {X : Cx} {W : WX} {k : Nat} {f : Addr} {fd : FuncData} {ps : List Str} {sp : Sp}
/-- a call seen from its caller -/
theorem run_g {pins : List (Addr × Obj)} {σ : L2.St} {H : Hp} {s : Shared} {Q : VK} {us us' : List Value} {kw : List (Str × Value)} {vs : List V} (F : FnG X.prog X.w X.K X.mg X.base (L2.CX X.prog X.w) k f fd ps sp) (hr : Room k X.A) (hg : NoGd X.A) (tk : Takes X W)
    (bt : BindsTo s fd ⟨us, kw⟩ (ps.zip us')) (I : Inv X pins σ H s) (r : Vals vs us') (h : sp vs H Q (WE W σ)) : wpAny (model X.prog X.w) X.A (call (.ref f) us kw) (EP X pins σ Q) X.xe s := by
  refine wpAny_call (codeAny_mono (F.go X.A X.stack s H _ us' vs Q (WE W σ) hg hr I.env0 bt r h) fun res s' z => ?_)
  cases res with
  | error e => exact passAt tk σ pins H s e s' I z
  | ok fl =>
    cases fl with
    | ret u => exact I.after z
    | next => exact z.elim
    | brk => exact z.elim
    | cont => exact z.elim
theorem bt_all {s : Shared} {us : List Value} (hb : Binds X.K fd ps []) (hi : X.K.In s.heap) (hl : us.length = ps.length) : BindsTo s fd ⟨us, []⟩ (ps.zip us) := by
  have b := hb s us hi (by rw [List.append_nil]; exact hl)
  rwa [List.append_nil] at b
end
end Rf
set_option linter.all false
set_option maxRecDepth 100000
set_option maxHeartbeats 2000000
set_option Elab.async false
/-! Rf soundness, part 14r: repr. -/
namespace Rf
open PySem PySem.Spec PyProof.Rows L2
mutual
theorem noDict : ∀ d : D, d.dep < 1000 → d.py.hasDict = false
  | .non, _ => rfl
  | .bl _, _ => rfl
  | .int _, _ => rfl
  | .str _, _ => rfl
  | .lst _ xs, h => by
    show PyData.hasDictAll (D.pys xs) = false
    exact noDicts xs (by simp only [D.dep] at h; omega)
  | .tup xs, h => by
    show PyData.hasDictAll (D.pys xs) = false
    exact noDicts xs (by simp only [D.dep] at h; omega)
  | .dct, h => by simp [D.dep] at h
  | .rng _ _, h => by simp [D.dep] at h
theorem noDicts : ∀ ds : List D, D.deps ds < 1000 → PyData.hasDictAll (D.pys ds) = false
  | [], _ => rfl
  | x :: xs, h => by
    simp only [D.deps] at h
    show (x.py.hasDict || PyData.hasDictAll (D.pys xs)) = false
    rw [noDict x (by omega), noDicts xs (by omega)]; rfl
end
theorem b_repr {X : Cx} {N : Addr → Prop} (hg : NoGd X.A) (hu : X.A.units + 66 < cLine) : CallR X (.builtin "repr") (rBi X.K N bi_repr) := by
  intro pins s σ H vs us Q I r h
  obtain ⟨Hs, ds, o, sb, hd, e, k⟩ := h
  unfold bi_repr at e
  split at e <;> try (cases e; done)
  rename_i d
  by_cases hc : (d.okE && d.py.showable && decide (d.py.shown.length ≤ lim)) = true
  rotate_left
  · rw [if_neg hc] at e
    by_cases hdc : d = .dct
    rotate_left
    · rw [if_neg hdc] at e; cases e
    subst hdc
    rw [if_pos rfl] at e
    cases e
    obtain ⟨v, rfl, hv⟩ := hd.one
    obtain ⟨u, rfl, ru⟩ := r.one
    cases hv with
    | dct hb =>
      rename_i a
      obtain rfl : u = Value.ref a := ru
      obtain ⟨hl, hne, vs, kv, ob, es, ep, e1, ⟨e2, _, _⟩, e3, _, e4, _⟩ := (show ObjOk X.prog X.w H s.heap a (.dK []) from I.hok a _ (sb _ _ hb))
      cases kv
      have e5 : es.toList = [] := by cases h : es.toList with
        | nil => rfl
        | cons x xs => rw [h] at e4; cases e4
      have rd : Reads s.heap (.ref a) (.dict []) (a :: [] ++ []) := .dict e1 e2 e3 (by rw [e5]; exact .nil) (by rw [e5]; exact .nil)
      have dd : PyData.depth (.dict []) ≤ 2 := by decide
      refine repr_of_reads' rd rfl (fun _ z => ?_) hg (by omega) (fun _ _ z => z) (fun h' t tk kp => ?_) (by show PySem.Str.length _ ≤ _; rw [sizeLine_eq]; decide)
      · have z : sysModules = a := by simpa using z
        rw [z] at hne
        simp at hne
      · exact ⟨.str _, H, I.kept kp, ⟨t, by first | rfl | (congr 1)⟩, k _ _ _ (.refl sb) (.str _)⟩
  rw [if_pos hc] at e
  cases e
  simp only [Bool.and_eq_true, decide_eq_true_eq] at hc
  obtain ⟨⟨h1, h2⟩, h3⟩ := hc
  obtain ⟨v, rfl, hv⟩ := hd.one
  obtain ⟨u, rfl, ru⟩ := r.one
  have hdep := okE_dep h1
  have fin : ∀ (h' : Heap) (t : Tok) (tk : Nat), (∀ b o, s.heap.get? b = some o → h'.get? b = some o) → EP X pins σ Q (.str d.py.shown t) { s with heap := h', toks := tk } := fun h' t tk kp =>
    ⟨.str _, H, I.kept kp, ⟨t, rfl⟩, k _ _ _ (.refl sb) (.str _)⟩
  have big : ∀ a, v = .ref a → wpAny (model X.prog X.w) X.A (call (.builtin "repr") [u]) (EP X pins σ Q) X.xe s := fun a ea => by
    subst ea
    cases ru
    obtain ⟨as, rd⟩ := Dp.reads I _ _ _ (hv.dp sb h1) rfl
    have dd := (depth_py d (by omega)).1
    exact repr_of_reads' rd h2 (fun z => by rw [noDict d (by omega)] at z; cases z) hg (by rw [dd]; omega) (fun _ _ z => z) (fun h' t tk kp => fin h' t tk kp) (limS' h3)
  cases d with
  | non => cases hv; cases ru; exact PySem.P.repr_of_none (fin _ _ _ fun _ _ z => z)
  | bl b => cases hv; cases ru; exact PySem.P.repr_of_bool (fin _ _ _ fun _ _ z => z)
  | int i =>
    cases hv
    obtain ⟨t, rfl⟩ := ru
    exact PySem.P.repr_of_int (by simpa [D.py, PyData.showable] using h2) (fin _ _ _ fun _ _ z => z)
  | str x =>
    cases hv
    obtain ⟨t, rfl⟩ := ru
    exact PySem.P.repr_of_str (fin _ _ _ fun _ _ z => z) (limS' h3)
  | lst f xs => obtain ⟨a, ys, ea, _⟩ := id hv; exact big a ea
  | tup xs => cases hv; exact big _ rfl
  | dct => simp [D.dep] at hdep
  | rng a b => simp [D.dep] at hdep
end Rf
set_option linter.all false
set_option maxRecDepth 100000
set_option maxHeartbeats 1000000
set_option Elab.async false
/-! Rf soundness, part 15: calls, comprehensions, pop. -/
namespace Rf
open PySem PySem.Spec PyProof.Rows L2
section
variable {X : Cx} {R : Rg} {C : Nat → Addr} {W : WX} {cf : CF}
theorem needOw_ok {α : Type} {i : Nat} {k : Unit → M α} {δ : Envr} {g : α → Envr → Prop} {e : Nat → D → Envr → Prop} (h : Ok ((needOw i >>= k) δ) g e) : (∃ ds : List D, δ[i]? = some (SV.ow ds)) ∧ Ok (k () δ) g e := by
  have h := h.bindI
  unfold needOw at h
  split at h
  · rename_i ds q; exact ⟨⟨ds, q⟩, h⟩
  · exact h.elim
theorem a_nil : PA X [] (tAA X.K R C W (evA cf .nil)) := pa_nil.mono fun σ H Q ⟨Hs, δ, wd, h⟩ => by
  rw [evA] at h
  exact h [] Hs H wd .refl .nil
def NotIoa : Ex → Prop
  | .ioa _ => False
  | _ => True
theorem evA_cons {x : Ex} {xs : Exs} (h : NotIoa x) : evA cf (.cons x xs) = (ev cf x >>= fun r => esc r >>= fun d => evA cf xs >>= fun as => pure (.v d :: as)) := by
  cases x <;> first | (rw [evA]; · intro i z; cases z) | exact h.elim
theorem a_cons {e : Expr} {es : List Expr} {x : Ex} {xs : Exs} (hx : NotIoa x) (hs : NotStar e) (ha : PE X e (tE X.K R C W (ev cf x))) (hr : PA X es (tAA X.K R C W (evA cf xs))) : PA X (e :: es) (tAA X.K R C W (evA cf (.cons x xs))) := by
  refine (pa_cons ha hr (star_of hs)).mono fun σ H Q ⟨Hs, δ, wd, h⟩ => ?_
  rw [evA_cons hx] at h
  refine tE_bind wd h fun r δ1 v Hs1 H1 p1 k1 => ?_
  obtain ⟨Hs2, w2, g2, o2, _⟩ := p1.opd
  obtain ⟨d, δ3, Hs3, w3, g3, hd, k3⟩ := esc_ok w2 o2 k1
  refine tAA_bind w3 k3 fun ds δ4 vs Hs4 H4 w4 g4 hds k4 => ?_
  exact k4 (v :: vs) Hs4 H4 w4 ((g2.trans g3).trans g4) (.v (hd.mono g4.hs) hds)
theorem a_io {x : Str} {pos : Pos} {i : Nat} {es : List Expr} {xs : Exs} (hN : X.N[i]? = some x) (hv : Vis X.env.scope x) (hd : (x == ("__debug__" : Str)) = false) (hcd : (x == ("__classdict__" : Str)) = false) (hr : PA X es (tAA X.K R C W (evA cf xs))) :
    PA X (.Name x pos :: es) (tAA X.K R C W (evA cf (.cons (.ioa i) xs))) := by
  refine (pa_cons (pe_var hN hv hd hcd) hr (star_of (fun _ _ z => by cases z))).mono fun σ H Q ⟨Hs, δ, wd, h⟩ => ?_
  rw [evA] at h
  obtain ⟨⟨ds, q⟩, h⟩ := needOw_ok h
  obtain ⟨a, us, h1, h2, h3, h4⟩ := wd.ow i ds q
  refine ⟨.ref a, h1, ?_⟩
  refine tAA_bind wd h fun ds δ4 vs Hs4 H4 w4 g4 hds k4 => ?_
  exact k4 (.ref a :: vs) Hs4 H4 w4 g4 (.s h1 hds)
/-- after a call -/
theorem call_after {f : Nat} {as : List Arg} {σ : L2.St} {δ δ1 : Envr} {Hs H Hs1 H1 : Hp} {vs : List V} {Q : VK} (w : Wd X.K R σ δ1 Hs1 H1) (g : Go σ δ Hs H δ1 Hs1 H1) (ha : ArgsOk X.K R.N Hs1 σ vs as)
    (h : Ok (callF cf f as δ1) (fun r δ' => ∀ v Hs' H', Post X.K R σ δ Hs H δ' Hs' H' v r → Q v H') (Xc X.K R C W σ)) : spOf X.K C (cf f) vs H1 Q (WE W σ) := by
  unfold callF at h
  split at h
  · rename_i h1
    have h1 := oneIo_n h1
    cases he : argsSV δ1 as with
    | none => simp only [he] at h; exact h.elim
    | some svs =>
      simp only [he] at h
      refine ⟨Hs1, svs, entry_wd w ha h1 he, ?_⟩
      cases q : cf f svs with
      | bad n => simp only [q] at h; exact h.elim
      | exn c d ws =>
        simp only [q] at h
        intro a v Hs' H' w' hx hd ho
        obtain ⟨w2, g2, hN, _⟩ := back_wd w ha h1 he w' ho
        exact h Hs' H' a v w2 hx (hd.base hN)
      | ret r ws =>
        simp only [q] at h
        cases r with
        | sl i => exact h.elim
        | fz d =>
          refine ⟨(fun i z => by cases z), fun v Hs' H' w' rs ho => ?_⟩
          obtain ⟨w2, g2, hN, _⟩ := back_wd w ha h1 he w' ho
          exact h v Hs' H' (.of_val (g.trans g2) w2 (Dq.base hN rs))
        | nw ds =>
          refine ⟨(fun i z => by cases z), fun v Hs' H' w' rs ho => ?_⟩
          obtain ⟨w2, g2, hN, hO⟩ := back_wd w ha h1 he w' ho
          obtain ⟨a, us, rfl, r1, r2, r3, r4, r5⟩ := rs
          refine h _ Hs' H' (Post.trans (v' := .non) (r' := .fz .non) g ⟨w2, g2, ⟨a, us, rfl, r1, r2, r3.base hN, fun z => ?_, hN a r5⟩, fun ds' b z1 z2 => ?_⟩)
          · rcases hO a z with q | ⟨o, q1, q2⟩
            · exact r4 q
            · exact q2 r5
          · cases z2
            rcases r5 with r5 | r5
            · obtain ⟨k, i, es, _, _, q3, q4⟩ := entry_own w ha he r5
              exact .inr ⟨i, es, q4, q3⟩
            · exact .inl r5
  · exact h.elim
theorem s_call {f k : Nat} {fa : Addr} {fd : FuncData} {ps : List Str} {x : Str} {p pos : Pos} {e : Expr} {es : List Expr} {xs : Exs} (F : FnG X.prog X.w X.K X.mg X.base (L2.CX X.prog X.w) k fa fd ps (spOf X.K C (cf f))) (hr : Room k X.A) (hgd : NoGd X.A) (tk : Takes X W) (hg : Gl X x) (hm : X.mg x = some (.ref fa)) (hk : PySem.W.keepIn X.K (.ref fa) = true) (hb : Binds X.K fd ps [])
    (hdb : (x == ("__debug__" : Str)) = false) (hs : NotStar e) (hpl : (backTo pos (starEach es X.env)).any (·.1) = false) (ha : PA X (e :: es) (tAA X.K R C W (evA cf xs))) :
    PE X (.Call (.Name x p) (e :: es) [] pos) (tE X.K R C W (ev cf (.call f [] xs))) := by
  refine ⟨fun pins s σ H Q I ⟨Hs, δ, wd, h⟩ => ?_⟩
  rw [ev] at h
  refine wpAny_Call_Name_kw (ld_glob I hg hm ?_ hdb)
  have z : tAA X.K R C W (evA cf xs) σ H fun vs H1 => spOf X.K C (cf f) vs H1 Q (WE W σ) := tAA_bind wd h fun as δ1 vs Hs1 H1 w1 g1 has k1 => call_after w1 g1 has k1
  refine PySem.W.callWith_K (h₀ := X.base) I.ok.mod.kin hk (thn (ha.run pos pins s σ H _ I z) fun us s1 ⟨vs, H1, I1, r, q⟩ => ⟨I1.kIn, ?_⟩) (star_of hs) hpl
  exact run_g F hr hgd tk (bt_all hb I1.kIn (show us.length = ps.length by rw [← r.length]; exact F.len _ _ _ _ q)) I1 r q
theorem s_call0 {f k : Nat} {fa : Addr} {fd : FuncData} {ps : List Str} {x : Str} {p pos : Pos} (F : FnG X.prog X.w X.K X.mg X.base (L2.CX X.prog X.w) k fa fd ps (spOf X.K C (cf f))) (hr : Room k X.A) (hgd : NoGd X.A) (tk : Takes X W) (hg : Gl X x) (hm : X.mg x = some (.ref fa)) (hk : PySem.W.keepIn X.K (.ref fa) = true) (hb : Binds X.K fd ps [])
    (hdb : (x == ("__debug__" : Str)) = false) : PE X (.Call (.Name x p) [] [] pos) (tE X.K R C W (ev cf (.call f [] .nil))) := by
  refine ⟨fun pins s σ H Q I ⟨Hs, δ, wd, h⟩ => ?_⟩
  refine wpAny_Call_Name_kw (ld_glob I hg hm ?_ hdb)
  rw [ev, evA, bindP] at h
  have q := call_after (vs := []) wd .refl .nil h
  exact PySem.W.callWith_K0 I.kIn hk (run_g (us := []) F hr hgd tk (bt_all hb I.kIn (F.len _ _ _ _ q)) I .nil q)
/-! ### comprehensions -/
def WF : WX := fun _ _ _ _ => False
theorem c_nil : PTs X [] (tT X.K R C W (evC cf .nil)) := ⟨fun pins s σ H Q I ⟨Hs, δ, wd, h⟩ => by
  rw [evC] at h
  exact pts_nil.run pins s σ H Q I (h Hs H wd .refl)⟩
theorem eq_one {x : Ex} : evC cf (.cons x .nil) = (ev cf x >>= truM) := by
  rw [evC]
  have e : ∀ m : M Rs, (m >>= fun r => truM r >>= fun t => if t = true then evC cf .nil else pure false) = (m >>= truM) := fun m => by
    congr 1
    funext r δ
    have e2 : evC cf .nil = pure true := by rw [evC]
    rw [e2]
    show M.bind (truM r) _ δ = _
    unfold M.bind truM
    cases rd δ r with
    | none => rfl
    | some d =>
      simp only
      cases d.truth with
      | none => rfl
      | some b => cases b <;> rfl
  exact e _
theorem c_one {c : Expr} {x : Ex} (h : PT X c (tT X.K R C W (ev cf x >>= truM))) : PTs X [c] (tT X.K R C W (evC cf (.cons x .nil))) := by
  rw [eq_one]
  exact pts_one h
theorem s_comp {elt tge iter : Expr} {ifs : List Expr} {scope : Scope} {own : List (Str × Nat)} {pos : Pos} {tg : Tg} {it : Rf.It} {cs : Exs} {e : Ex} (hc : X.calm = true) (hN : X.N.Nodup) (hv1 : ∀ j ∈ own.map (·.2), j ∈ tg.slots) (hv2 : ∀ j ∈ tg.slots, j ∈ own.map (·.2)) (hi : PI X tge iter (tI X.K R C W (evI cf it))) (ok : BlkOk X.N X.env.scope scope own)
    (hg : ∀ (s : Shared) (H : Hp) (L : Addr) (cl : List (Str × Addr)) (fp : List Addr), PG (X.blk s H scope (compEnvC scope cl L X.env) fp) tge (tg.g X.K)) (ht : ∀ (s : Shared) (H : Hp) (L : Addr) (cl : List (Str × Addr)) (fp : List Addr), PTs (X.blk s H scope (compEnvC scope cl L X.env) fp) ifs (tT X.K R.free C WF (evC cf cs)))
    (he : ∀ (s : Shared) (H : Hp) (L : Addr) (cl : List (Str × Addr)) (fp : List Addr), PE (X.blk s H scope (compEnvC scope cl L X.env) fp) elt (tE X.K R.free C WF (ev cf e))) (hs : ∀ x, foldedSetIterable iter X.env x = pure x) :
    PE X (.ListComp elt [⟨tge, iter, ifs, 0⟩] scope pos) (tE X.K R C W (ev cf (.comp tg it cs e))) :=
  (pe_lc hc hN hi ok hg ht he hs).mono fun σ H Q h => comp_go hv1 hv2 h
/-! ### writing -/
/-- an owned list is written -/
theorem Wd.write {K : Fg} {R : Rg} {σ : L2.St} {δ : Envr} {Hs H : Hp} (w : Wd K R σ δ Hs H) {i : Nat} {ds ds' : List D} {a : Addr} {vs' : List V} (h : δ[i]? = some (.ow ds)) (ha : σ[i]? = some (some (.ref a))) (hd : DqAll K R.N Hs vs' ds') :
    Wd K R σ (δ.set i (.ow ds')) Hs (upd H a (.lst vs')) ∧ Go σ δ Hs H (δ.set i (.ow ds')) Hs (upd H a (.lst vs')) := by
  have own : Own σ δ a := ⟨i, ds, h, ha⟩
  have hn := w.own_none own
  have h3 : ∃ vs0, H a = some (.lst vs0) := by
    obtain ⟨b, vs0, q1, _, q3, _⟩ := w.ow i ds h
    rw [ha] at q1; cases q1
    exact ⟨vs0, q3⟩
  obtain ⟨vs0, h3⟩ := h3
  have hil : i < δ.length := (List.getElem?_eq_some_iff.mp h).1
  have sl : ∀ {j : Nat} {es : List D}, (δ.set i (.ow ds'))[j]? = some (.ow es) → (j = i ∧ es = ds') ∨ (j ≠ i ∧ δ[j]? = some (.ow es)) := fun e => by
    rcases get_set e with ⟨rfl, z⟩ | ⟨q, z⟩
    · cases z; exact .inl ⟨rfl, rfl⟩
    · exact .inr ⟨fun z => q z.symm, z⟩
  have oo : ∀ b, Own σ (δ.set i (.ow ds')) b → Own σ δ b := fun b ⟨j, es, e1, e2⟩ => by
    rcases sl e1 with ⟨rfl, _⟩ | ⟨_, z⟩
    · exact ⟨j, ds, h, e2⟩
    · exact ⟨j, es, z, e2⟩
  refine ⟨{
    bs := w.bs
    sub := w.sub.updR hn
    fr := fun b u e n => by
      have q : b ≠ a := fun z => by
        subst z
        rcases w.owA b own with q | q
        · exact n q
        · rw [e] at q; cases q
      exact (w.fr b u e n).upd q
    tb := w.tb.updL h3 (fun _ z => by cases z)
    ns := w.ns
    dom := fun b e => by
      by_cases q : b = a
      · subst q; rw [upd_same]; intro z; cases z
      · rw [upd_ne q]; exact w.dom b e
    nf := w.nf
    len := by rw [List.length_set]; exact w.len
    sh := fun j d e => by
      rcases get_set e with ⟨_, z⟩ | ⟨_, z⟩
      · cases z
      · exact w.sh j d z
    ow := fun j es e => by
      rcases sl e with ⟨rfl, rfl⟩ | ⟨q, z⟩
      · exact ⟨a, vs', ha, hn, upd_same, hd⟩
      · obtain ⟨b, us, h1, h2, h3, h4⟩ := w.ow j es z
        have : b ≠ a := fun z1 => q (w.dj j i es ds a z h (z1 ▸ h1) ha)
        exact ⟨b, us, h1, h2, by rw [upd_ne this]; exact h3, h4⟩
    owA := fun b h => w.owA b (oo b h)
    dj := fun j k es fs b e1 e2 g1 g2 => by
      rcases sl e1 with ⟨rfl, _⟩ | ⟨q1, z1⟩
      · rcases sl e2 with ⟨rfl, _⟩ | ⟨q2, z2⟩
        · rfl
        · exact w.dj j k ds fs b h z2 g1 g2
      · rcases sl e2 with ⟨rfl, _⟩ | ⟨q2, z2⟩
        · exact w.dj j k es ds b z1 h g1 g2
        · exact w.dj j k es fs b z1 z2 g1 g2
    kp := w.kp }, ⟨.refl _, fun b u e n => ?_, fun b e1 e2 => absurd e1 e2, oo⟩⟩
  have q : b ≠ a := fun z => n (z ▸ own)
  exact .inl (by rw [upd_ne q]; exact e)
theorem s_pop {x : Str} {i : Nat} {e : Expr} {ea : Ex} {npos apos cpos : Pos} (hN : X.N[i]? = some x) (hv : Vis X.env.scope x) (hd : (x == ("__debug__" : Str)) = false) (hcd : (x == ("__classdict__" : Str)) = false)
    (hb : attributeBase (.Name x npos) "pop" X.env (eval (.Name x npos) X.env) = eval (.Name x npos) X.env) (hline : (apos.endLine == cpos.line) = true) (hs : NotStar e) (ha : PE X e (tE X.K R C W (ev cf ea))) :
    PE X (.Call (.Attribute (.Name x npos) "pop" apos) [e] [] cpos) (tE X.K R C W (ev cf (.pop i ea))) := by
  refine (pe_bm PySem.F.plainAttrs_list PySem.F.slot_list_pop PySem.F.type_list_pop mt_popAt (pe_var hN hv hd hcd) (pa_cons ha pa_nil (star_of hs)) hb (few1 hs) hline (star_of hs) rfl).mono fun σ H Q ⟨Hs, δ, wd, h⟩ => ?_
  rw [ev] at h
  obtain ⟨⟨ds0, q0⟩, h⟩ := needOw_ok h
  obtain ⟨a, us, h1, h2, h3, h4⟩ := wd.ow i ds0 q0
  refine ⟨.ref a, h1, .inl ⟨rfl, us, .of h3⟩, ?_⟩
  refine tE_bind wd h fun r δ1 v Hs1 H1 p1 k1 => ?_
  obtain ⟨Hs2, w2, g2, o2, _⟩ := p1.opd
  obtain ⟨d, e1, k2⟩ := rdM_ok k1
  have hdv := o2.rd w2 e1
  cases d with
  | int k =>
    cases hdv
    cases q : δ1[i]? with
    | none => simp only [q] at k2; exact k2.elim
    | some s =>
      cases s with
      | ow ds =>
        simp only [q] at k2
        have hle : ds.length ≤ lim := by
          by_cases c : ds.length ≤ lim
          · exact c
          · rw [if_neg c] at k2; exact k2.elim
        rw [if_pos hle] at k2
        cases q2 : L2.ixN ds.length k with
        | none => simp only [q2] at k2; exact k2.elim
        | some j =>
          simp only [q2] at k2
          cases q3 : ds[j]? with
          | none => simp only [q3] at k2; exact k2.elim
          | some dj =>
            simp only [q3] at k2
            obtain ⟨b, ws, f1, f2, f3, f4⟩ := w2.ow i ds q
            rw [h1] at f1; cases f1
            obtain ⟨y, hy, hdy⟩ := f4.get q3
            obtain ⟨z1, z2, z3, z4⟩ := ixN_seq (by rw [← f4.length] at q2; exact q2)
            have hlen := w2.sub
            obtain ⟨w3, g3⟩ := w2.write q h1 (f4.erase j)
            have hl2 : lim < 2 ^ 62 := by decide
            rw [f4.length] at z3 z4
            exact ⟨a, ws, k, j, y, rfl, rfl, f3, by omega, by omega, z1, hy, k2 y Hs2 _ (.of_val (g2.trans g3) w3 hdy)⟩
      | _ => simp only [q] at k2; exact k2.elim
  | _ => exact k2.elim
end
end Rf
set_option linter.all false
set_option maxRecDepth 100000
set_option maxHeartbeats 1000000
set_option Elab.async false
/-! Rf soundness, part 15k: calls by keywords. -/
namespace Rf
open PySem PySem.Spec PyProof.Rows L2
theorem pick_args {K : Fg} {N : Addr → Prop} {Hs : Hp} {σ : L2.St} {kw : List Nat} {vs : List V} {as : List Arg} (h : ArgsOk K N Hs σ vs as) : ∀ {ps : List Nat} {as' : List Arg}, pick kw as ps = some as' → ∃ vs', pick kw vs ps = some vs' ∧ ArgsOk K N Hs σ vs' as'
  | [], as', e => by cases e; exact ⟨[], rfl, .nil⟩
  | p :: ps, as', e => by
    unfold pick at e
    cases q : kw.findIdx? (· == p) with
    | none => rw [q] at e; simp at e
    | some k =>
      rw [q] at e
      simp only [Option.bind_some] at e
      cases q2 : as[k]? with
      | none => rw [q2] at e; simp at e
      | some a =>
        rw [q2] at e
        cases q3 : pick kw as ps with
        | none => rw [q3] at e; simp at e
        | some r =>
          rw [q3] at e
          cases e
          obtain ⟨v, h1, h2⟩ := argsOk_get h q2
          obtain ⟨vs', h3, h4⟩ := pick_args h q3
          refine ⟨v :: vs', ?_, ?_⟩
          · unfold pick
            rw [q]
            simp only [Option.bind_some]
            rw [h1, h3]
          · cases a with
            | v d => exact .v h2 h4
            | s i => exact .s h2 h4
theorem order_args {K : Fg} {N : Addr → Prop} {Hs : Hp} {σ : L2.St} {kw : List Nat} {vs : List V} {as as' : List Arg} (h : ArgsOk K N Hs σ vs as) (e : order kw as = some as') : ∃ vs', order kw vs = some vs' ∧ ArgsOk K N Hs σ vs' as' := by
  unfold order at e ⊢
  by_cases c : kw.isEmpty = true
  · rw [if_pos c] at e ⊢
    cases e
    exact ⟨vs, rfl, h⟩
  · rw [if_neg c] at e ⊢
    rw [h.length]
    exact pick_args h e
theorem pick_vals {kw : List Nat} : ∀ {vs : List V} {us : List Value} {ps : List Nat} {vs' : List V}, Vals vs us → pick kw vs ps = some vs' → ∃ us', pick kw us ps = some us' ∧ Vals vs' us'
  | vs, us, [], vs', r, e => by cases e; exact ⟨[], rfl, .nil⟩
  | vs, us, p :: ps, vs', r, e => by
    unfold pick at e
    cases q : kw.findIdx? (· == p) with
    | none => rw [q] at e; simp at e
    | some k =>
      rw [q] at e
      simp only [Option.bind_some] at e
      cases q2 : vs[k]? with
      | none => rw [q2] at e; simp at e
      | some a =>
        rw [q2] at e
        cases q3 : pick kw vs ps with
        | none => rw [q3] at e; simp at e
        | some r' =>
          rw [q3] at e
          cases e
          obtain ⟨v, h1, h2⟩ := r.get q2
          obtain ⟨us', h3, h4⟩ := pick_vals r q3
          refine ⟨v :: us', ?_, .cons h2 h4⟩
          unfold pick
          rw [q]
          simp only [Option.bind_some]
          rw [h1, h3]
theorem order_vals {kw : List Nat} {vs vs' : List V} {us : List Value} (r : Vals vs us) (e : order kw vs = some vs') : ∃ us', order kw us = some us' ∧ Vals vs' us' := by
  unfold order at e ⊢
  by_cases c : kw.isEmpty = true
  · rw [if_pos c] at e ⊢
    cases e
    exact ⟨us, rfl, r⟩
  · rw [if_neg c] at e ⊢
    rw [← r.length]
    exact pick_vals r e
/-- a call by keywords alone: how it binds -/
def KwB (K : Fg) (fd : FuncData) (ps : List Str) (kw : List Nat) (ks : List Str) : Prop := ∀ (s : Shared) (ws ws' : List Value), K.In s.heap → order kw ws = some ws' → ws'.length = ps.length → BindsTo s fd ⟨[], ks.zip ws⟩ (ps.zip ws')
section
variable {X : Cx} {R : Rg} {C : Nat → Addr} {W : WX} {cf : CF}
/-- keywords' values, evaluated as arguments -/
theorem kw_nil : PK X [] (tAA X.K R C W (evA cf .nil)) := ⟨fun pos pins s σ H Q I ⟨Hs, δ, wd, h⟩ => by
  rw [evA] at h
  exact pk_nil.run pos pins s σ H Q I (h [] Hs H wd .refl .nil)⟩
theorem kw_cons {nm : Option Str} {kpos : Pos} {e : Expr} {kws : List Keyword} {x : Ex} {xs : Exs} (hx : NotIoa x) (ha : PE X e (tE X.K R C W (ev cf x))) (hr : PK X kws (tAA X.K R C W (evA cf xs))) : PK X (⟨nm, e, kpos⟩ :: kws) (tAA X.K R C W (evA cf (.cons x xs))) := by
  refine ⟨fun pos pins s σ H Q I ⟨Hs, δ, wd, h⟩ => (pk_cons ha hr).run pos pins s σ H Q I ?_⟩
  rw [evA_cons hx] at h
  refine tE_bind wd h fun r δ1 v Hs1 H1 p1 k1 => ?_
  obtain ⟨Hs2, w2, g2, o2, _⟩ := p1.opd
  obtain ⟨d, δ3, Hs3, w3, g3, hd, k3⟩ := esc_ok w2 o2 k1
  refine tAA_bind w3 k3 fun ds δ4 vs Hs4 H4 w4 g4 hds k4 => ?_
  exact k4 (v :: vs) Hs4 H4 w4 ((g2.trans g3).trans g4) (.v (hd.mono g4.hs) hds)
theorem kw_io {nm : Option Str} {kpos pos : Pos} {x : Str} {i : Nat} {kws : List Keyword} {xs : Exs} (hN : X.N[i]? = some x) (hv : Vis X.env.scope x) (hd : (x == ("__debug__" : Str)) = false) (hcd : (x == ("__classdict__" : Str)) = false) (hr : PK X kws (tAA X.K R C W (evA cf xs))) :
    PK X (⟨nm, .Name x pos, kpos⟩ :: kws) (tAA X.K R C W (evA cf (.cons (.ioa i) xs))) := by
  refine ⟨fun pos' pins s σ H Q I ⟨Hs, δ, wd, h⟩ => (pk_cons (pe_var hN hv hd hcd) hr).run pos' pins s σ H Q I ?_⟩
  rw [evA] at h
  obtain ⟨⟨ds, q⟩, h⟩ := needOw_ok h
  obtain ⟨a, us, h1, h2, h3, h4⟩ := wd.ow i ds q
  refine ⟨.ref a, h1, ?_⟩
  refine tAA_bind wd h fun ds δ4 vs Hs4 H4 w4 g4 hds k4 => ?_
  exact k4 (.ref a :: vs) Hs4 H4 w4 g4 (.s h1 hds)
theorem kw_names {env : Env} {pos : Pos} : ∀ {kws : List Keyword} {ks : List Str}, kws.map (·.arg) = ks.map some → (backToKw pos (keywordEach kws env)).all (·.1.isSome) = true ∧ (backToKw pos (keywordEach kws env)).filterMap (·.1) = ks ∧ (backToKw pos (keywordEach kws env)).any (·.1.isNone) = false
  | [], [], _ => ⟨rfl, rfl, rfl⟩
  | [], _ :: _, h => by cases h
  | _ :: _, [], h => by cases h
  | ⟨nm, e, p⟩ :: kws, k :: ks, h => by
    injection h with h1 h2
    have h1 : nm = some k := h1
    subst h1
    obtain ⟨q1, q2, q3⟩ := kw_names (env := env) (pos := pos) h2
    refine ⟨?_, ?_, ?_⟩
    · show (true && (backToKw pos (keywordEach kws env)).all (·.1.isSome)) = true
      rw [q1]; rfl
    · show k :: (backToKw pos (keywordEach kws env)).filterMap (·.1) = k :: ks
      rw [q2]
    · show (false || (backToKw pos (keywordEach kws env)).any (·.1.isNone)) = false
      rw [q3]; rfl
theorem s_callK {f k : Nat} {fa : Addr} {fd : FuncData} {ps ks : List Str} {kw : List Nat} {x : Str} {p pos : Pos} {kws : List Keyword} {xs : Exs} (F : FnG X.prog X.w X.K X.mg X.base (L2.CX X.prog X.w) k fa fd ps (spOf X.K C (cf f))) (hr : Room k X.A) (hgd : NoGd X.A) (tk : Takes X W) (hg : Gl X x) (hm : X.mg x = some (.ref fa)) (hk : PySem.W.keepIn X.K (.ref fa) = true) (hb : KwB X.K fd ps kw ks)
    (hdb : (x == ("__debug__" : Str)) = false) (hn : kws.map (·.arg) = ks.map some) (ha : PK X kws (tAA X.K R C W (evA cf xs))) :
    PE X (.Call (.Name x p) [] kws pos) (tE X.K R C W (ev cf (.call f kw xs))) := by
  obtain ⟨n1, n2, n3⟩ := kw_names (env := X.env) (pos := pos) hn
  refine ⟨fun pins s σ H Q I ⟨Hs, δ, wd, h⟩ => ?_⟩
  rw [ev] at h
  refine wpAny_Call_Name_kw (ld_glob I hg hm ?_ hdb)
  have z : tAA X.K R C W (evA cf xs) σ H fun vs H1 => ∃ vs', order kw vs = some vs' ∧ spOf X.K C (cf f) vs' H1 Q (WE W σ) := by
    refine tAA_bind wd h fun as δ1 vs Hs1 H1 w1 g1 has k1 => ?_
    obtain ⟨as', e1, k2⟩ := ofO_ok k1
    obtain ⟨vs', e2, has'⟩ := order_args has e1
    exact ⟨vs', e2, call_after w1 g1 has' k2⟩
  refine PySem.W.callWith_KW0 (h₀ := X.base) I.ok.mod.kin hk n1 (thn (ha.run pos pins s σ H _ I z) fun ws s2 ⟨vs, H2, I2, rz, vs', e1, q⟩ => ⟨I2.kIn, ?_⟩) (by rw [n3]; rfl)
  rw [n2]
  obtain ⟨ws', e2, r2⟩ := order_vals rz e1
  have hl : ws'.length = ps.length := by rw [← r2.length]; exact F.len _ _ _ _ q
  exact run_g F hr hgd tk (hb s2 ws ws' I2.kIn e2 hl) I2 r2 q
end
end Rf
set_option linter.all false
set_option maxRecDepth 100000
set_option maxHeartbeats 1000000
set_option Elab.async false
/-! Rf soundness, part 16: statements. -/
namespace Rf
open PySem PySem.Spec PyProof.Rows L2
/-- what is wanted of an exception, whatever the slots -/
def Xs (K : Fg) (R : Rg) (C : Nat → Addr) (W : WX) (c : Nat) (d : D) (δ' : Envr) : Prop :=
  ∀ (σ' : L2.St) (Hs' H' : Hp) (a : Addr) (v : V), Wd K R σ' δ' Hs' H' → H' a = some (.xd [(("value" : Str), v)]) → Dq K R.N Hs' v d → W (.ref (C c)) (some a) σ' H'
def EndOk (K : Fg) (R : Rg) (D : Ends) (o : Out) (δ' : Envr) : Prop := match o with
  | .nx => ∀ σ' Hs' H', Wd K R σ' δ' Hs' H' → D.nx σ' H'
  | .bk => ∀ σ' Hs' H', Wd K R σ' δ' Hs' H' → D.bk σ' H'
  | .ret r => ∀ v σ' Hs' H', Wd K R σ' δ' Hs' H' → RsOk K R Hs' H' σ' δ' v r → D.rt v H'
def tS (K : Fg) (R : Rg) (C : Nat → Addr) (W : WX) (f : M Out) : TS := fun D σ H => ∃ (Hs : Hp) (δ : Envr), Wd K R σ δ Hs H ∧ Ok (f δ) (EndOk K R D) (Xs K R C W)
section
variable {K : Fg} {R : Rg} {C : Nat → Addr} {W : WX} {σ : L2.St} {δ : Envr} {Hs H : Hp}
theorem Xs.at {c : Nat} {d : D} {δ' : Envr} (h : Xs K R C W c d δ') : Xc K R C W σ c d δ' := fun Hs' H' a v w x q => h σ Hs' H' a v w x q
theorem se_bind {α β : Type} {f : M α} {k : α → M β} {g : β → Envr → Prop} (h : Ok ((f >>= k) δ) g (Xs K R C W)) : Ok ((f >>= k) δ) g (Xc K R C W σ) := h.imp (fun _ _ x => x) fun _ _ _ x => x.at
/-- the value of an expression in a statement -/
theorem tE_stmt {β : Type} {f : M Rs} {k : Rs → M β} {g : β → Envr → Prop} {Q : VK} (wd : Wd K R σ δ Hs H) (h : Ok ((f >>= k) δ) g (Xs K R C W))
    (hk : ∀ r δ1 v Hs1 H1, Post K R σ δ Hs H δ1 Hs1 H1 v r → Ok (k r δ1) g (Xs K R C W) → Q v H1) : tE K R C W f σ H Q :=
  ⟨Hs, δ, wd, h.bindI.imp (fun r δ1 hr v Hs1 H1 p => hk r δ1 v Hs1 H1 p hr) fun _ _ _ x => x.at⟩
theorem tT_stmt {β : Type} {f : M Bool} {k : Bool → M β} {g : β → Envr → Prop} {Q : Bool → Hp → Prop} (wd : Wd K R σ δ Hs H) (h : Ok ((f >>= k) δ) g (Xs K R C W))
    (hk : ∀ b δ1 Hs1 H1, Wd K R σ δ1 Hs1 H1 → Go σ δ Hs H δ1 Hs1 H1 → Ok (k b δ1) g (Xs K R C W) → Q b H1) : tT K R C W f σ H Q :=
  ⟨Hs, δ, wd, h.bindI.imp (fun b δ1 hr Hs1 H1 w1 g1 => hk b δ1 Hs1 H1 w1 g1 hr) fun _ _ _ x => x.at⟩
/-- a slot takes a new list -/
theorem Wd.setOw (w : Wd K R σ δ Hs H) {i : Nat} {ds : List D} {a : Addr} {vs : List V} (hi : i ∉ R.nas) (h1 : Hs a = none) (h2 : H a = some (.lst vs)) (h3 : DqAll K R.N Hs vs ds) (h4 : ¬ Own σ δ a) (h5 : R.N a) : Wd K R (σ.set i (some (.ref a))) (δ.set i (.ow ds)) Hs H := by
  have sl : ∀ {j : Nat} {es : List D} {b : Addr}, (δ.set i (.ow ds))[j]? = some (.ow es) → (σ.set i (some (.ref a)))[j]? = some (some (.ref b)) → (j = i ∧ es = ds ∧ b = a) ∨ (j ≠ i ∧ δ[j]? = some (.ow es) ∧ σ[j]? = some (some (.ref b))) := fun e e2 => by
    rcases get_set e with ⟨rfl, z⟩ | ⟨q, z⟩
    · cases z
      have hl : i < σ.length := by
        rw [w.len]
        have := (List.getElem?_eq_some_iff.mp e).1
        rwa [List.length_set] at this
      rw [List.getElem?_set_self hl] at e2
      cases e2
      exact .inl ⟨rfl, rfl, rfl⟩
    · rw [List.getElem?_set_ne q] at e2
      exact .inr ⟨fun z => q z.symm, z, e2⟩
  have no : ∀ {j : Nat} {es : List D}, δ[j]? = some (.ow es) → σ[j]? = some (some (.ref a)) → False := fun e1 e2 => h4 ⟨_, _, e1, e2⟩
  exact {
    bs := w.bs
    sub := w.sub
    fr := w.fr
    tb := w.tb
    ns := w.ns
    dom := w.dom
    nf := w.nf
    len := by rw [List.length_set, List.length_set]; exact w.len
    sh := fun j d e => by
      rcases get_set e with ⟨_, z⟩ | ⟨q, z⟩
      · cases z
      · rw [List.getElem?_set_ne q]; exact w.sh j d z
    ow := fun j es e => by
      rcases get_set e with ⟨rfl, z⟩ | ⟨q, z⟩
      · cases z
        have hl : i < σ.length := by
          rw [w.len]
          have := (List.getElem?_eq_some_iff.mp e).1
          rwa [List.length_set] at this
        exact ⟨a, vs, List.getElem?_set_self hl, h1, h2, h3⟩
      · rw [List.getElem?_set_ne q]; exact w.ow j es z
    owA := fun b ⟨j, es, e1, e2⟩ => by
      rcases sl e1 e2 with ⟨_, _, rfl⟩ | ⟨_, q1, q2⟩
      · exact h5
      · exact w.owA b ⟨j, es, q1, q2⟩
    dj := fun j k es fs b e1 e2 g1 g2 => by
      rcases sl e1 g1 with ⟨rfl, _, rfl⟩ | ⟨q, q1, q2⟩
      · rcases sl e2 g2 with ⟨rfl, _, _⟩ | ⟨_, p1, p2⟩
        · rfl
        · exact (no p1 p2).elim
      · rcases sl e2 g2 with ⟨rfl, _, rfl⟩ | ⟨_, p1, p2⟩
        · exact (no q1 q2).elim
        · exact w.dj j k es fs b q1 p1 q2 p2
    kp := fun j hj => by
      have : i ≠ j := fun z => hi (z ▸ hj)
      rw [List.getElem?_set_ne this]; exact w.kp j hj }
/-- a slot takes a value -/
theorem putR_ok {X : Cx} {α : Type} {own : Bool} {i : Nat} {r : Rs} {k : Unit → M α} {g : α → Envr → Prop} {e : Nat → D → Envr → Prop} {v : V} {δ0 : Envr} {Hs0 H0 : Hp} (hi : i ∉ R.nas) (p : Post X.K R σ δ0 Hs0 H0 δ Hs H v r) (h : Ok ((putR own i r >>= k) δ) g e) :
    ∃ δ' Hs', Wd X.K R (σ.set i (some v)) δ' Hs' H ∧ Ok (k () δ') g e := by
  have gen : ∀ h : Ok (((esc r >>= fun d => fun δ => .ok () (δ.set i (.sh d)) : M Unit) >>= k) δ) g e, ∃ δ' Hs', Wd X.K R (σ.set i (some v)) δ' Hs' H ∧ Ok (k () δ') g e := fun h => by
    rw [bindA] at h
    obtain ⟨Hs2, w2, g2, o2, _⟩ := p.opd
    obtain ⟨d, δ', Hs', w', g', hd, h'⟩ := esc_ok w2 o2 h
    exact ⟨_, Hs', w'.setV hi hd, h'⟩
  cases own with
  | false => exact gen h
  | true =>
    cases r with
    | fz d => exact gen h
    | sl j => exact gen h
    | nw ds =>
      obtain ⟨a, vs, rfl, h1, h2, h3, h4, h5⟩ := p.rs
      exact ⟨_, Hs, p.wd.setOw hi h1 h2 h3 h4 h5, h⟩
end
section
variable {X : Cx} {R : Rg} {C : Nat → Addr} {W : WX} {cf : CF}
theorem s_ex {e : Expr} {x : Ex} {pos : Pos} (hs : swapsWith e none pos.line X.env = pure false) (he : PE X e (tE X.K R C W (ev cf x))) : PS X (.Expr e pos) (tS X.K R C W (exec cf R.β (.ex x))) := by
  refine (ps_expr he hs).mono fun D σ H ⟨Hs, δ, wd, h⟩ => ?_
  rw [exec] at h
  exact tE_stmt wd h fun r δ1 v Hs1 H1 p k => k σ Hs1 H1 p.wd
theorem asg_go {own : Bool} {i : Nat} {x : Ex} {σ : L2.St} {H : Hp} {D : Ends} (hi : i ∉ R.nas) (h : tS X.K R C W (exec cf R.β (.asg own i x)) D σ H) : tE X.K R C W (ev cf x) σ H fun v H1 => D.nx (σ.set i (some v)) H1 := by
  obtain ⟨Hs, δ, wd, h⟩ := h
  rw [exec] at h
  refine tE_stmt wd h fun r δ1 v Hs1 H1 p k => ?_
  obtain ⟨δ', Hs', w', k⟩ := putR_ok hi p k
  exact k _ _ _ w'
theorem s_asg {own : Bool} {i : Nat} {y : Str} {e : Expr} {x : Ex} {pos pos' : Pos} (hN : X.N.Nodup) (hy : X.N[i]? = some y) (hl : Loc X.env.scope y) (hf : X.fn y = true ∨ X.env.scope.names.lookup y = some .local) (hi : i ∉ R.nas) (hs : swapsWith e (some (.Name y pos')) pos.line X.env = pure false) (he : PE X e (tE X.K R C W (ev cf x))) :
    PS X (.Assign [.Name y pos'] e pos) (tS X.K R C W (exec cf R.β (.asg own i x))) :=
  (ps_set hN hy hl he hs hf).mono fun D σ H h => asg_go hi h
theorem s_asgLc {own : Bool} {i : Nat} {y : Str} {pos' spos : Pos} {elt tge iter : Expr} {ifs : List Expr} {scope : Scope} {ow : List (Str × Nat)} {pos : Pos} {tg : Tg} {it : Rf.It} {cs : Exs} {e : Ex} (hc : X.calm = true) (hN : X.N.Nodup) (hy : X.N[i]? = some y) (hloc : X.env.scope.names.lookup y = some .local)
    (hsw : swapsWith (.ListComp elt [⟨tge, iter, ifs, 0⟩] scope pos) (some (.Name y pos')) spos.line X.env = pure true) (hnas : i ∉ R.nas) (hv1 : ∀ j ∈ ow.map (·.2), j ∈ tg.slots) (hv2 : ∀ j ∈ tg.slots, j ∈ ow.map (·.2)) (hi : PI X tge iter (tI X.K R C W (evI cf it))) (ok : BlkOk X.N X.env.scope scope ow)
    (hg : ∀ (s : Shared) (H : Hp) (L : Addr) (cl : List (Str × Addr)) (fp : List Addr), PG (X.blk s H scope (compEnvC scope cl L X.env) fp) tge (tg.g X.K)) (ht : ∀ (s : Shared) (H : Hp) (L : Addr) (cl : List (Str × Addr)) (fp : List Addr), PTs (X.blk s H scope (compEnvC scope cl L X.env) fp) ifs (tT X.K R.free C WF (evC cf cs)))
    (he : ∀ (s : Shared) (H : Hp) (L : Addr) (cl : List (Str × Addr)) (fp : List Addr), PE (X.blk s H scope (compEnvC scope cl L X.env) fp) elt (tE X.K R.free C WF (ev cf e))) (hs : ∀ x, foldedSetIterable iter X.env x = pure x) :
    PS X (.Assign [.Name y pos'] (.ListComp elt [⟨tge, iter, ifs, 0⟩] scope pos) spos) (tS X.K R C W (exec cf R.β (.asg own i (.comp tg it cs e)))) :=
  (ps_setLc hc hN hy hloc hsw hi ok hg ht he hs).mono fun D σ H h => comp_go hv1 hv2 (asg_go hnas h)
theorem s_asgT {is : List Nat} {tge e : Expr} {x : Ex} {pos : Pos} (hn : ∀ i ∈ is, i ∉ R.nas) (hg : PG X tge ((Tg.tp is).g X.K)) (hs : swapsWithSole [tge] e pos.line X.env = pure false) (hw : swappedStores [tge] e X.env = pure none) (h1 : (assignEach [tge] X.env).map (·.2) = [assign tge X.env]) (he : PE X e (tE X.K R C W (ev cf x))) :
    PS X (.Assign [tge] e pos) (tS X.K R C W (exec cf R.β (.asgT is x))) := by
  refine (ps_asg he hg hs hw h1).mono fun D σ H ⟨Hs, δ, wd, h⟩ => ?_
  rw [exec] at h
  refine tE_stmt wd h fun r δ1 v Hs1 H1 p k => ?_
  obtain ⟨Hs2, w2, g2, o2, _⟩ := p.opd
  obtain ⟨d, δ', Hs', w', g', hd, k⟩ := esc_ok w2 o2 k
  exact put_go hn w' hd k fun σ' δ'' w'' _ _ k => k σ' Hs' H1 w''
theorem s_ret {e : Expr} {x : Ex} {pos : Pos} (he : PE X e (tE X.K R C W (ev cf x))) : PS X (.Return (some e) pos) (tS X.K R C W (exec cf R.β (.ret x))) := by
  refine (ps_ret he).mono fun D σ H ⟨Hs, δ, wd, h⟩ => ?_
  rw [exec] at h
  exact tE_stmt wd h fun r δ1 v Hs1 H1 p k => k v σ Hs1 H1 p.wd p.rs
theorem s_retN {pos : Pos} : PS X (.Return none pos) (tS X.K R C W (exec cf R.β (.ret .non))) := by
  refine ps_retN.mono fun D σ H ⟨Hs, δ, wd, h⟩ => ?_
  rw [exec, ev, bindP] at h
  exact h .non σ Hs H wd .non
theorem s_brk {pos : Pos} : PS X (.Break pos) (tS X.K R C W (exec cf R.β .brk)) := ps_break.mono fun D σ H ⟨Hs, δ, wd, h⟩ => by
  rw [exec] at h
  exact h σ Hs H wd
theorem s_pas {pos : Pos} : PS X (.Pass pos) (tS X.K R C W (exec cf R.β .pas)) := ps_pass.mono fun D σ H ⟨Hs, δ, wd, h⟩ => by
  rw [exec] at h
  exact h σ Hs H wd
/-! blocks of statements -/
theorem ss_nil : PSs X [] (tS X.K R C W (execs cf R.β .nil)) := pss_nil.mono fun D σ H ⟨Hs, δ, wd, h⟩ => by
  rw [execs] at h
  exact h σ Hs H wd
theorem ss_cons {st : Stmt} {rest : List Stmt} {s : Rf.St} {r : Sts} (h1 : PS X st (tS X.K R C W (exec cf R.β s))) (h2 : PSs X rest (tS X.K R C W (execs cf R.β r))) : PSs X (st :: rest) (tS X.K R C W (execs cf R.β (.cons s r))) := by
  refine (pss_cons h1 h2).mono fun D σ H ⟨Hs, δ, wd, h⟩ => ?_
  rw [execs] at h
  refine ⟨Hs, δ, wd, h.bindI.imp (fun o δ1 hr => ?_) fun _ _ _ x => x⟩
  cases o with
  | nx => exact fun σ' Hs' H' w' => ⟨Hs', δ1, w', hr⟩
  | bk => exact hr
  | ret r => exact hr
/-- .. and what stands behind -/
def tSt (K : Fg) (R : Rg) (C : Nat → Addr) (W : WX) (f : M Out) (u : TS) : TS := fun D σ H => tS K R C W f { D with nx := u D } σ H
theorem ss_nilT {b : List Stmt} {u : TS} (h : PSs X b u) : PSs X b (tSt X.K R C W (execs cf R.β .nil) u) := h.mono fun D σ H ⟨Hs, δ, wd, h⟩ => by
  rw [execs] at h
  exact h σ Hs H wd
theorem ss_consT {st : Stmt} {rest : List Stmt} {s : Rf.St} {r : Sts} {u : TS} (h1 : PS X st (tS X.K R C W (exec cf R.β s))) (h2 : PSs X rest (tSt X.K R C W (execs cf R.β r) u)) : PSs X (st :: rest) (tSt X.K R C W (execs cf R.β (.cons s r)) u) := by
  refine (pss_cons h1 h2).mono fun D σ H ⟨Hs, δ, wd, h⟩ => ?_
  rw [execs] at h
  refine ⟨Hs, δ, wd, h.bindI.imp (fun o δ1 hr => ?_) fun _ _ _ x => x⟩
  cases o with
  | nx => exact fun σ' Hs' H' w' => ⟨Hs', δ1, w', hr⟩
  | bk => exact hr
  | ret r => exact hr
theorem ss_endT {st : List Stmt} {f : M Out} (h : PSs X (st ++ []) (tSt X.K R C W f tNext)) : PSs X st (tS X.K R C W f) := by
  rw [List.append_nil] at h
  exact h
theorem s_if {c : Expr} {a b : List Stmt} {x : Ex} {sa sb : Sts} {pos : Pos} (hc : PT X c (tT X.K R C W (ev cf x >>= truM))) (ha : PSs X a (tS X.K R C W (execs cf R.β sa))) (hb : PSs X b (tS X.K R C W (execs cf R.β sb))) : PS X (.If c a b pos) (tS X.K R C W (exec cf R.β (.ite x sa sb))) := by
  refine (ps_if hc ha hb).mono fun D σ H ⟨Hs, δ, wd, h⟩ => ?_
  rw [exec, bind3] at h
  refine tT_stmt wd h fun t δ1 Hs1 H1 w1 g1 k => ?_
  cases t with
  | true => exact ⟨Hs1, δ1, w1, k⟩
  | false => exact ⟨Hs1, δ1, w1, k⟩
theorem s_while {c : Expr} {body : List Stmt} {x : Ex} {sb : Sts} {pos : Pos} (hp : PassesOwn (model X.prog X.w) X.A X.env X.xe) (hc : PT X c (tT X.K R C W (ev cf x >>= truM))) (hb : PSs X body (tS X.K R C W (execs cf R.β sb))) : PS X (.While c body [] pos) (tS X.K R C W (exec cf R.β (.whl x sb))) := by
  refine (ps_while hp hc hb).mono fun D σ H ⟨Hs, δ, wd, h⟩ => ?_
  rw [exec] at h
  generalize turns = n at h
  refine ⟨fun m σ H => ∃ Hs δ, Wd X.K R σ δ Hs H ∧ Ok (whileL (ev cf x >>= truM) (execs cf R.β sb) m δ) (EndOk X.K R D) (Xs X.K R C W), ⟨n, Hs, δ, wd, h⟩, ?_⟩
  rintro m σ1 H1 ⟨Hs1, δ1, w1, h1⟩
  cases m with
  | zero => exact (show Ok (fail 30 δ1) _ _ from h1).elim
  | succ m =>
    rw [whileL] at h1
    refine tT_stmt w1 h1 fun t δ2 Hs2 H2 w2 g2 k => ?_
    cases t with
    | false => exact k σ1 Hs2 H2 w2
    | true =>
      rw [if_pos rfl] at k
      refine ⟨fun σ H => ∃ Hs δ, Wd X.K R σ δ Hs H ∧ Ok (whileL (ev cf x >>= truM) (execs cf R.β sb) m δ) (EndOk X.K R D) (Xs X.K R C W), fun σ' H' q => ⟨m, Nat.lt_succ_self m, q⟩, Hs2, δ2, w2, (Ok.bindI k).imp (fun o δ3 hr => ?_) fun _ _ _ x => x⟩
      cases o with
      | nx => exact fun σ' Hs' H' w' => ⟨Hs', δ3, w', hr⟩
      | bk => exact hr
      | ret r => exact hr
end
end Rf
set_option linter.all false
set_option maxRecDepth 100000
set_option maxHeartbeats 1000000
set_option Elab.async false
/-! Rf soundness, part 17: append, remove, item stores, for, parallel stores, raise that is never reached. -/
namespace Rf
open PySem PySem.Spec PyProof.Rows L2
section
variable {X : Cx} {R : Rg} {C : Nat → Addr} {W : WX} {cf : CF}
theorem s_app {x : Str} {i : Nat} {e : Expr} {ea : Ex} {npos apos cpos pos : Pos} (hN : X.N[i]? = some x) (hv : Vis X.env.scope x) (hd : (x == ("__debug__" : Str)) = false) (hcd : (x == ("__classdict__" : Str)) = false)
    (hb : attributeBase (.Name x npos) "append" X.env (eval (.Name x npos) X.env) = eval (.Name x npos) X.env) (hline : (apos.endLine == cpos.line) = true) (hs : NotStar e) (ha : PE X e (tE X.K R C W (ev cf ea))) :
    PS X (.Expr (.Call (.Attribute (.Name x npos) "append" apos) [e] [] cpos) pos) (tS X.K R C W (exec cf R.β (.app i ea))) := by
  refine (ps_expr (pe_bm PySem.F.plainAttrs_list PySem.F.slot_list_append PySem.F.type_list_append mt_append (pe_var hN hv hd hcd) (pa_cons ha pa_nil (star_of hs)) hb (few1 hs) hline (star_of hs) rfl) rfl).mono fun D σ H ⟨Hs, δ, wd, h⟩ => ?_
  rw [exec] at h
  obtain ⟨⟨ds0, q0⟩, h⟩ := needOw_ok h
  obtain ⟨a, us, h1, h2, h3, h4⟩ := wd.ow i ds0 q0
  refine ⟨.ref a, h1, .inl ⟨rfl, us, .of h3⟩, ?_⟩
  refine tE_stmt wd h fun r δ1 v Hs1 H1 p1 k1 => ?_
  obtain ⟨Hs2, w2, g2, o2, _⟩ := p1.opd
  obtain ⟨d, δ', Hs', w', g', hd, k2⟩ := esc_ok w2 o2 k1
  cases q : δ'[i]? with
  | none => simp only [q] at k2; exact k2.elim
  | some s =>
    cases s with
    | ow ds =>
      simp only [q] at k2
      have hle : ds.length < lim := by
        by_cases c : ds.length < lim
        · exact c
        · rw [if_neg c] at k2; exact k2.elim
      rw [if_pos hle] at k2
      obtain ⟨b, ws, f1, f2, f3, f4⟩ := w'.ow i ds q
      rw [h1] at f1; cases f1
      obtain ⟨w3, g3⟩ := w'.write q h1 (f4.app (.cons hd .nil))
      exact ⟨a, ws, v, rfl, rfl, f3, by rw [f4.length]; exact limT hle, k2 σ Hs' _ w3⟩
    | _ => simp only [q] at k2; exact k2.elim
theorem s_rem {x : Str} {i : Nat} {e : Expr} {ea : Ex} {npos apos cpos pos : Pos} (hN : X.N[i]? = some x) (hv : Vis X.env.scope x) (hd : (x == ("__debug__" : Str)) = false) (hcd : (x == ("__classdict__" : Str)) = false)
    (hb : attributeBase (.Name x npos) "remove" X.env (eval (.Name x npos) X.env) = eval (.Name x npos) X.env) (hline : (apos.endLine == cpos.line) = true) (hs : NotStar e) (ha : PE X e (tE X.K R C W (ev cf ea))) :
    PS X (.Expr (.Call (.Attribute (.Name x npos) "remove" apos) [e] [] cpos) pos) (tS X.K R C W (exec cf R.β (.rem i ea))) := by
  refine (ps_expr (pe_bm PySem.F.plainAttrs_list PySem.F.slot_list_remove PySem.F.type_list_remove mt_remove (pe_var hN hv hd hcd) (pa_cons ha pa_nil (star_of hs)) hb (few1 hs) hline (star_of hs) rfl) rfl).mono fun D σ H ⟨Hs, δ, wd, h⟩ => ?_
  rw [exec] at h
  obtain ⟨⟨ds0, q0⟩, h⟩ := needOw_ok h
  obtain ⟨a, us, h1, h2, h3, h4⟩ := wd.ow i ds0 q0
  refine ⟨.ref a, h1, .inl ⟨rfl, us, .of h3⟩, ?_⟩
  refine tE_stmt wd h fun r δ1 v Hs1 H1 p1 k1 => ?_
  obtain ⟨Hs2, w2, g2, o2, _⟩ := p1.opd
  obtain ⟨d, δ', Hs', w', g', hd, k2⟩ := esc_ok w2 o2 k1
  cases q : δ'[i]? with
  | none => simp only [q] at k2; exact k2.elim
  | some s =>
    cases s with
    | ow ds =>
      simp only [q] at k2
      cases q2 : ints? ds with
      | none => simp only [q2] at k2; exact k2.elim
      | some ns =>
        simp only [q2] at k2
        cases d with
        | int k =>
          cases hd
          simp only at k2
          have hm : k ∈ ns := by
            by_cases c : k ∈ ns
            · exact c
            · rw [if_neg c] at k2; exact k2.elim
          rw [if_pos hm] at k2
          obtain ⟨b, ws, f1, f2, f3, f4⟩ := w'.ow i ds q
          rw [h1] at f1; cases f1
          have hx := ints?_map q2
          subst hx
          have hv := f4.ints
          subst hv
          obtain ⟨j, j1, j2, j3, j4⟩ := first_at hm
          obtain ⟨w3, g3⟩ := w'.write q h1 (DqAll.of_ints (ns.erase k))
          exact ⟨a, ns, k, j, rfl, rfl, f3, j2, j3, by rw [j4]; exact k2 σ Hs' _ w3⟩
        | _ => exact k2.elim
    | _ => simp only [q] at k2; exact k2.elim
theorem s_setI {x : Str} {i : Nat} {e k : Expr} {ea ek : Ex} {npos spos pos : Pos} (hN : X.N[i]? = some x) (hv : Vis X.env.scope x) (hd : (x == ("__debug__" : Str)) = false) (hcd : (x == ("__classdict__" : Str)) = false) (hix : PlainIx k) (hsw : swapsWithSole [.Subscript (.Name x npos) k spos] e pos.line X.env = pure false)
    (hst : swappedStores [.Subscript (.Name x npos) k spos] e X.env = pure none) (ha : PE X e (tE X.K R C W (ev cf ea))) (hk : PE X k (tE X.K R C W (ev cf ek)))
    (has : ∀ v, assign (.Subscript (.Name x npos) k spos) X.env v = (do
      let ov ← holding [v] (eval (.Name x npos) X.env)
      let iv ← holding [v, ov] (eval k X.env)
      standAt spos
      holding [v, ov, iv] (setItem ov iv v)
      release [v, ov, iv] [])) :
    PS X (.Assign [.Subscript (.Name x npos) k spos] e pos) (tS X.K R C W (exec cf R.β (.setI i ek ea))) := by
  refine (ps_asg ha (pg_sub (pe_var hN hv hd hcd) hk set_list has) hsw hst rfl).mono fun D σ H ⟨Hs, δ, wd, h⟩ => ?_
  rw [exec] at h
  refine tE_stmt wd h fun r δ1 v Hs1 H1 p1 k1 => ?_
  obtain ⟨Hs2, w2, g2, o2, _⟩ := p1.opd
  obtain ⟨d, δ', Hs', w', g', hd, k2⟩ := esc_ok w2 o2 k1
  obtain ⟨⟨ds0, q0⟩, k2⟩ := needOw_ok k2
  obtain ⟨a, us, h1, h2, h3, h4⟩ := w'.ow i ds0 q0
  refine ⟨.ref a, h1, ?_⟩
  refine tE_stmt w' k2 fun r δ3 y Hs3 H3 p3 k3 => ?_
  obtain ⟨Hs4, w4, g4, o4, _⟩ := p3.opd
  obtain ⟨dk, e1, k4⟩ := rdM_ok k3
  have hdk := o4.rd w4 e1
  cases dk with
  | int kk =>
    cases hdk
    cases q : δ3[i]? with
    | none => simp only [q] at k4; exact k4.elim
    | some s =>
      cases s with
      | ow ds =>
        simp only [q] at k4
        cases q2 : L2.ixN ds.length kk with
        | none => simp only [q2] at k4; exact k4.elim
        | some j =>
          simp only [q2] at k4
          obtain ⟨b, ws, f1, f2, f3, f4⟩ := w4.ow i ds q
          rw [h1] at f1; cases f1
          obtain ⟨w5, g5⟩ := w4.write q h1 (f4.set j (hd.mono g4.hs))
          exact ⟨a, ws, kk, j, rfl, rfl, f3, by rw [f4.length]; exact q2, k4 σ Hs4 _ w5⟩
      | _ => simp only [q] at k4; exact k4.elim
  | _ => exact k4.elim
/-! for -/
def _root_.Rf.Rg.at (R : Rg) (Bs' : Hp) : Rg := { R with Bs := Bs' }
theorem _root_.Rf.Wd.rebase {K : Fg} {R : Rg} {σ σ2 : L2.St} {δ δ2 : Envr} {Hs H Hs2 H2 : Hp} (w2 : Wd K R σ2 δ2 Hs2 H2) (w : Wd K R σ δ Hs H) (s : Sub Hs2 Hs) : Wd K (R.at Hs2) σ δ Hs H where
  bs := s
  sub := w.sub
  fr := w.fr
  tb := w.tb
  ns := w.ns
  dom := w.dom
  nf := fun b h => by
    rcases w.nf b h with q | q
    · refine .inl fun z => ?_
      exact q (w2.bs.back z)
    · exact .inr q
  len := w.len
  sh := w.sh
  ow := w.ow
  owA := w.owA
  dj := w.dj
  kp := w.kp
theorem _root_.Rf.Wd.unbase {K : Fg} {R : Rg} {σ σ2 : L2.St} {δ δ2 : Envr} {Hs H Hs2 H2 : Hp} (w2 : Wd K R σ2 δ2 Hs2 H2) (w : Wd K (R.at Hs2) σ δ Hs H) : Wd K R σ δ Hs H where
  bs := w2.bs.trans w.bs
  sub := w.sub
  fr := w.fr
  tb := w.tb
  ns := w.ns
  dom := w.dom
  nf := fun b h => by
    rcases w.nf b h with q | q
    · exact w2.nf b q
    · exact .inr q
  len := w.len
  sh := w.sh
  ow := w.ow
  owA := w.owA
  dj := w.dj
  kp := w.kp
theorem for_go {tg : Tg} {it : Rf.It} {sb : Sts} (hn : ∀ i ∈ tg.slots, i ∉ R.nas) {D : Ends} {σ : L2.St} {H : Hp} (h : tS X.K R C W (exec cf R.β (.for_ tg it sb)) D σ H) : tFor (tI X.K R C W (evI cf it)) (tg.g X.K) (fun D σ H => ∃ Bs', tS X.K (R.at Bs') C W (execs cf R.β sb) D σ H) D σ H := by
  obtain ⟨Hs, δ, wd, h⟩ := h
  rw [exec] at h
  refine ⟨Hs, δ, wd, h.bindI.imp (fun p δ1 hr J Hs1 H1 src w1 g1 ito so => ?_) fun _ _ _ x => x.at⟩
  obtain ⟨xs, w⟩ := p
  simp only at hr ito so
  have hr := Ok.bindI hr
  -- the walked list is kept
  obtain ⟨δ2, Hs2, w2, s2, ito2, hr2⟩ : ∃ (δ2 : Envr) (Hs2 : Hp), Wd X.K R σ δ2 Hs2 H1 ∧ Sub Hs1 Hs2 ∧ ItOk X.K R.N Hs2 J xs none ∧ Ok (forL (fun x => tg.put x >>= fun _ => execs cf R.β sb) xs δ2) (EndOk X.K R D) (Xs X.K R C W) := by
    cases w with
    | none =>
      cases src with
      | none => exact ⟨δ1, Hs1, w1, .refl _, ito, hr⟩
      | some q => exact so.elim
    | some q =>
      obtain ⟨i, ds⟩ := q
      cases src with
      | none => exact so.elim
      | some q =>
        obtain ⟨a, ds'⟩ := q
        obtain ⟨e1, e2, e3⟩ := so
        subst e1
        obtain ⟨b, vs, f1, f2, f3, f4, f5, f6⟩ := w1.freeze e3
        rw [e2] at f1; cases f1
        cases f4 with
        | lst z1 z2 =>
          rename_i xs'
          have hx : xs' = vs := by
            have := z1.2
            rw [upd_same] at this
            cases this; rfl
          subst hx
          refine ⟨_, _, f5, f6.hs, ?_, hr⟩
          exact ItOk.fixed (a := a) (ds := ds) (fun Hs H s1 s2 hs k => ito Hs H (f6.hs.trans s1) s2 hs k) (.of upd_same) z2
  refine ⟨fun k m σ H => m = xs.length - k ∧ k ≤ xs.length ∧ ∃ (Hs : Hp) (δ : Envr), Sub Hs2 Hs ∧ Wd X.K R σ δ Hs H ∧ Ok (forL (fun x => tg.put x >>= fun _ => execs cf R.β sb) (xs.drop k) δ) (EndOk X.K R D) (Xs X.K R C W), ⟨_, rfl, Nat.zero_le _, Hs2, δ2, .refl _, w2, hr2⟩, ?_⟩
  rintro k m σk Hk ⟨rfl, hk, Hsk, δk, sk, wk, hck⟩
  have iok := ito2 Hsk Hk sk wk.sub (fun p hp => by cases hp) k
  by_cases hlt : k < xs.length
  · right
    obtain ⟨hgo, hyld⟩ := iok.1 xs[k] (List.getElem?_eq_getElem hlt)
    refine ⟨hgo, fun σ H => k + 1 ≤ xs.length ∧ ∃ (Hs : Hp) (δ : Envr), Sub Hs2 Hs ∧ Wd X.K R σ δ Hs H ∧ Ok (forL (fun x => tg.put x >>= fun _ => execs cf R.β sb) (xs.drop (k + 1)) δ) (EndOk X.K R D) (Xs X.K R C W), fun σ' H' q => ⟨xs.length - (k + 1), by omega, rfl, q⟩, fun y H' hy => ?_⟩
    obtain ⟨Hs', ex, hdy⟩ := hyld y H' hy
    rw [List.drop_eq_getElem_cons hlt, forL, bindA] at hck
    refine put_go hn (wk.ext ex) hdy hck fun σ' δ' w' _ _ k' => ?_
    -- what is shared only grows: read off the run of the body
    refine ⟨Hs2, Hs', δ', w2.rebase w' (sk.trans ex.hs), (Ok.bindI k').imp (fun o δ3 hr => ?_) fun c d δ3 x => fun σ' Hs' H' a v w x1 x2 => x σ' Hs' H' a v (w2.unbase w) x1 x2⟩
    cases o with
    | nx => exact fun σ3 Hs3 H3 w3 => ⟨hlt, Hs3, δ3, w3.bs, w2.unbase w3, hr⟩
    | bk => exact fun σ' Hs' H' w' => hr σ' Hs' H' (w2.unbase w')
    | ret r => exact fun v σ' Hs' H' w' rs => hr v σ' Hs' H' (w2.unbase w') rs
  · left
    have hk' : k = xs.length := by omega
    refine ⟨iok.2 (by omega), ?_⟩
    rw [hk', List.drop_length, forL] at hck
    exact hck σk Hsk Hk wk
theorem s_for {tge iter : Expr} {body : List Stmt} {tg : Tg} {it : Rf.It} {sb : Sts} {pos : Pos} (hn : ∀ i ∈ tg.slots, i ∉ R.nas) (hp : PassesOwn (model X.prog X.w) X.A X.env X.xe) (hc : X.calm = true) (hi : PI X tge iter (tI X.K R C W (evI cf it))) (hg : PG X tge (tg.g X.K)) (hb : ∀ Bs', PSs X body (tS X.K (R.at Bs') C W (execs cf R.β sb)))
    (hs : ∀ x, foldedSetIterable iter X.env x = pure x) : PS X (.For tge iter body [] pos) (tS X.K R C W (exec cf R.β (.for_ tg it sb))) := by
  have hb' : PSs X body (fun D σ H => ∃ Bs', tS X.K (R.at Bs') C W (execs cf R.β sb) D σ H) := ⟨fun pins s σ H D I ⟨Bs', q⟩ => (hb Bs').run pins s σ H D I q⟩
  exact (ps_for hp hc hi hg hb' hs).mono fun D σ H h => for_go hn h
end
end Rf
set_option linter.all false
set_option maxRecDepth 100000
set_option maxHeartbeats 1000000
set_option Elab.async false
/-! Rf soundness, part 18: parallel stores; a raise that is never reached. -/
namespace Rf
open PySem PySem.Spec PyProof.Rows L2
inductive PsOk (K : Fg) (N : Addr → Prop) (Hs H : Hp) (F : Addr → Prop) : (Addr → Prop) → List V → List Rs → Prop
  | nil {O : Addr → Prop} : PsOk K N Hs H F O [] []
  | fz {O : Addr → Prop} {v : V} {vs : List V} {d : D} {rs : List Rs} : Dq K N Hs v d → PsOk K N Hs H F O vs rs → PsOk K N Hs H F O (v :: vs) (.fz d :: rs)
  | nw {O : Addr → Prop} {a : Addr} {us vs : List V} {ds : List D} {rs : List Rs} : Hs a = none → H a = some (.lst us) → DqAll K N Hs us ds → ¬ O a → F a → N a → PsOk K N Hs H F (fun b => O b ∨ b = a) vs rs → PsOk K N Hs H F O (.ref a :: vs) (.nw ds :: rs)
section
variable {K : Fg} {N : Addr → Prop} {Hs H : Hp} {F F' : Addr → Prop}
theorem PsOk.anti : ∀ {vs : List V} {rs : List Rs} {O O' : Addr → Prop}, (∀ b, F b → O' b → O b) → PsOk K N Hs H F O vs rs → PsOk K N Hs H F O' vs rs
  | _, _, _, _, _, .nil => .nil
  | _, _, _, _, s, .fz h k => .fz h (k.anti s)
  | _, _, _, _, s, .nw h1 h2 h3 h4 h5 h6 k => .nw h1 h2 h3 (fun z => h4 (s _ h5 z)) h5 h6 (k.anti fun b hb z => z.imp (s b hb) id)
theorem PsOk.weak : ∀ {vs : List V} {rs : List Rs} {O : Addr → Prop}, (∀ b, F b → F' b) → PsOk K N Hs H F O vs rs → PsOk K N Hs H F' O vs rs
  | _, _, _, _, .nil => .nil
  | _, _, _, s, .fz h k => .fz h (k.weak s)
  | _, _, _, s, .nw h1 h2 h3 h4 h5 h6 k => .nw h1 h2 h3 h4 (s _ h5) h6 (k.weak s)
theorem PsOk.length : ∀ {vs : List V} {rs : List Rs} {O : Addr → Prop}, PsOk K N Hs H F O vs rs → vs.length = rs.length
  | _, _, _, .nil => rfl
  | _, _, _, .fz _ k => by simp [k.length]
  | _, _, _, .nw _ _ _ _ _ _ k => by simp [k.length]
/-- an address that none of them is becomes shared -/
theorem PsOk.share {a : Addr} {xs : List V} (hn : Hs a = none) : ∀ {vs : List V} {rs : List Rs} {O : Addr → Prop}, O a → PsOk K N Hs H F O vs rs → PsOk K N (upd Hs a (.lst xs)) H F O vs rs
  | _, _, _, _, .nil => .nil
  | _, _, _, o, .fz h k => .fz (h.mono (.new hn)) (k.share hn o)
  | _, _, _, o, .nw h1 h2 h3 h4 h5 h6 k => .nw (by rw [upd_ne (fun z => by subst z; exact h4 o)]; exact h1) h2 (h3.mono (.new hn)) h4 h5 h6 (k.share hn (.inl o))
end
def tAP (K : Fg) (R : Rg) (C : Nat → Addr) (W : WX) (f : M (List Rs)) : TA := fun σ H Q => ∃ (Hs : Hp) (δ : Envr), Wd K R σ δ Hs H ∧
  Ok (f δ) (fun rs δ' => ∀ vs Hs' H', Wd K R σ δ' Hs' H' → Go σ δ Hs H δ' Hs' H' → PsOk K R.N Hs' H' (fun b => H b = none ∨ Own σ δ b) (Own σ δ') vs rs → Q vs H') (Xc K R C W σ)
def setVs : L2.St → List Nat → List V → L2.St
  | σ, i :: is, v :: vs => setVs (σ.set i (some v)) is vs
  | σ, _, _ => σ
section
variable {X : Cx} {R : Rg} {C : Nat → Addr} {W : WX} {cf : CF}
theorem p_nil : PA X [] (tAP X.K R C W (evP cf .nil)) := pa_nil.mono fun σ H Q ⟨Hs, δ, wd, h⟩ => by
  rw [evP] at h
  exact h [] Hs H wd .refl .nil
theorem go_none {σ : L2.St} {δ δ1 : Envr} {Hs H Hs1 H1 : Hp} (g : Go σ δ Hs H δ1 Hs1 H1) {b : Addr} (h : H1 b = none ∨ Own σ δ1 b) : H b = none ∨ Own σ δ b := by
  rcases h with h | h
  · by_cases q : Own σ δ b
    · exact .inr q
    · refine .inl ?_
      cases e : H b with
      | none => rfl
      | some o => exact absurd h (g.fr b o e q).ne
  · exact .inr (g.ow b h)
theorem p_cons {e : Expr} {es : List Expr} {x : Ex} {xs : Exs} (hs : NotStar e) (ha : PE X e (tE X.K R C W (ev cf x))) (hr : PA X es (tAP X.K R C W (evP cf xs))) : PA X (e :: es) (tAP X.K R C W (evP cf (.cons x xs))) := by
  refine (pa_cons ha hr (star_of hs)).mono fun σ H Q ⟨Hs, δ, wd, h⟩ => ?_
  rw [evP] at h
  refine tE_bind wd h fun r δ1 v Hs1 H1 p1 k1 => ?_
  have gen : ∀ k1 : Ok ((esc r >>= fun d => evP cf xs >>= fun rs => (pure (.fz d :: rs) : M (List Rs))) δ1) (fun rs δ' => ∀ vs Hs' H', Wd X.K R σ δ' Hs' H' → Go σ δ Hs H δ' Hs' H' → PsOk X.K R.N Hs' H' (fun b => H b = none ∨ Own σ δ b) (Own σ δ') vs rs → Q vs H') (Xc X.K R C W σ),
      tAP X.K R C W (evP cf xs) σ H1 (fun vs H2 => Q (v :: vs) H2) := fun k1 => by
    obtain ⟨Hs2, w2, g2, o2, _⟩ := p1.opd
    obtain ⟨d, δ3, Hs3, w3, g3, hd, k3⟩ := esc_ok w2 o2 k1
    refine ⟨Hs3, δ3, w3, (Ok.bindI k3).imp (fun rs δ4 hr vs Hs4 H4 w4 g4 ps => ?_) fun _ _ _ x => x⟩
    exact hr (v :: vs) Hs4 H4 w4 ((g2.trans g3).trans g4) (.fz (hd.mono g4.hs) (ps.weak fun b h => go_none (g2.trans g3) h))
  cases r with
  | fz d => exact gen k1
  | sl i => exact gen k1
  | nw ds =>
    obtain ⟨a, us, rfl, h1, h2, h3, h4, h5⟩ := p1.rs
    refine ⟨Hs1, δ1, p1.wd, (Ok.bindI k1).imp (fun rs δ4 hr vs Hs4 H4 w4 g4 ps => ?_) fun _ _ _ x => x⟩
    refine hr _ Hs4 H4 w4 (p1.go.trans g4) (.nw (Classical.byContradiction fun z => ?_) (g4.fr a _ h2 h4).lst (h3.mono g4.hs) (fun z => h4 (g4.ow a z)) (p1.nw ds a rfl rfl) h5 ?_)
    · rcases g4.nf a h1 z with q | q
      · rw [h2] at q; cases q
      · exact h4 q
    · refine (ps.anti (O' := fun b => Own σ δ4 b ∨ b = a) fun b hb z => ?_).weak fun b h => go_none p1.go h
      rcases z with z | z
      · exact z
      · subst z
        rcases hb with q | q
        · rw [h2] at q; cases q
        · exact (h4 q).elim
theorem puts_ok {α : Type} {k : Unit → M α} {g : α → Envr → Prop} {e : Nat → D → Envr → Prop} {F : Addr → Prop} {H : Hp} : ∀ {own : List Bool} {is : List Nat} {rs : List Rs} {vs : List V} {σ : L2.St} {δ : Envr} {Hs : Hp}, (∀ i ∈ is, i ∉ R.nas) → Wd X.K R σ δ Hs H → PsOk X.K R.N Hs H F (Own σ δ) vs rs →
    Ok ((putRs own is rs >>= k) δ) g e → vs.length = is.length ∧ ∃ δ' Hs', Wd X.K R (setVs σ is vs) δ' Hs' H ∧ Ok (k () δ') g e
  | [], [], [], vs, σ, δ, Hs, hn, w, ps, h => by
    cases ps
    unfold putRs at h
    exact ⟨rfl, δ, Hs, w, h⟩
  | o :: os, i :: is, r :: rs, vs, σ, δ, Hs, hn, w, ps, h => by
    unfold putRs at h
    rw [bindA] at h
    have hi := hn i List.mem_cons_self
    have hn' : ∀ j ∈ is, j ∉ R.nas := fun j hj => hn j (List.mem_cons_of_mem _ hj)
    cases ps with
    | fz hd ps =>
      rename_i v vs d
      have h : Ok ((putRs os is rs >>= k) (δ.set i (.sh d))) g e := by cases o <;> exact h
      obtain ⟨h1, δ', Hs', w', h'⟩ := puts_ok hn' (w.setV hi hd) (ps.anti fun b _ z => Own.setV z) h
      exact ⟨by simp [h1], δ', Hs', w', h'⟩
    | nw h1 h2 h3 h4 h5 h6 ps =>
      rename_i a us vs ds
      cases o with
      | true =>
        have h : Ok ((putRs os is rs >>= k) (δ.set i (.ow ds))) g e := h
        obtain ⟨q1, δ', Hs', w', h'⟩ := puts_ok hn' (w.setOw hi h1 h2 h3 h4 h6) (ps.anti fun b _ ⟨j, es, e1, e2⟩ => by
          rcases get_set e1 with ⟨rfl, z⟩ | ⟨q, z⟩
          · have hl : i < σ.length := by
              rw [w.len]
              have := (List.getElem?_eq_some_iff.mp e1).1
              rwa [List.length_set] at this
            rw [List.getElem?_set_self hl] at e2
            cases e2
            exact .inr rfl
          · rw [List.getElem?_set_ne q] at e2
            exact .inl ⟨j, es, z, e2⟩) h
        exact ⟨by simp [q1], δ', Hs', w', h'⟩
      | false =>
        have h : Ok ((putRs os is rs >>= k) (δ.set i (.sh (.lst .nu ds)))) g e := h
        have w2 := w.share h2 h1 h4 h6
        have hd : Dq X.K R.N (upd Hs a (.lst us)) (.ref a) (.lst .nu ds) := .lst ⟨h6, upd_same⟩ (h3.mono (.new h1))
        obtain ⟨q1, δ', Hs', w', h'⟩ := puts_ok hn' (w2.setV hi hd) ((ps.share h1 (.inr rfl)).anti fun b _ z => .inl (Own.setV z)) h
        exact ⟨by simp [q1], δ', Hs', w', h'⟩
  | [], _ :: _, _, _, _, _, _, _, _, _, h => by unfold putRs at h; exact h.elim
  | [], [], _ :: _, _, _, _, _, _, _, _, h => by unfold putRs at h; exact h.elim
  | _ :: _, [], _, _, _, _, _, _, _, _, h => by unfold putRs at h; exact h.elim
  | _ :: _, _ :: _, [], _, _, _, _, _, _, _, h => by unfold putRs at h; exact h.elim
/-- the values, then all names at once -/
def tParN (is : List Nat) (ta : TA) : TS := fun D σ H => ta σ H fun vs H1 => vs.length = is.length ∧ vs.length ≤ sizeLine ∧ D.nx (setVs σ is vs) H1 ∧ ∀ T, H1 T = none → D.nx (setVs σ is vs) (upd H1 T (.tup vs))
theorem par_go {own : List Bool} {is : List Nat} {xs : Exs} {D : Ends} {σ : L2.St} {H : Hp} (hl : is.length ≤ lim) (hn : ∀ i ∈ is, i ∉ R.nas) (h : tS X.K R C W (exec cf R.β (.par own is xs)) D σ H) : tParN is (tAP X.K R C W (evP cf xs)) D σ H := by
  obtain ⟨Hs, δ, wd, h⟩ := h
  rw [exec] at h
  refine ⟨Hs, δ, wd, (Ok.bindI h).imp (fun rs δ1 hr vs Hs1 H1 w1 g1 ps => ?_) fun _ _ _ x => x.at⟩
  obtain ⟨q1, δ', Hs', w', k⟩ := puts_ok hn w1 ps hr
  refine ⟨q1, by rw [q1]; exact limS' hl, k _ Hs' H1 w', fun T hT => k _ Hs' _ (w'.ext (.newO w'.sub hT))⟩
theorem gNames_set {Q : L2.St → Hp → Prop} {H : Hp} : ∀ {is : List Nat} {vs : List V} {σ : L2.St}, vs.length = is.length → Q (setVs σ is vs) H → gNames is vs σ H Q
  | [], [], σ, _, q => ⟨rfl, q⟩
  | [], _ :: _, _, e, _ => by cases e
  | _ :: _, [], _, e, _ => by cases e
  | i :: is, v :: vs, σ, e, q => ⟨v, vs, rfl, gNames_set (by simpa using e) q⟩
theorem s_par2 {i j : Nat} {x y : Str} {a b : Expr} {xs : Exs} {own : List Bool} {px py pt pos : Pos} {kt k2 : Nat} {pt2 : Pos} (hc : X.calm = true) (hN : X.N.Nodup) (hi : X.N[i]? = some x) (hj : X.N[j]? = some y) (hij : i ≠ j)
    (hx : X.env.scope.names.lookup x = some .local) (hy : X.env.scope.names.lookup y = some .local) (hn : ∀ k ∈ [i, j], k ∉ R.nas) (ha : PA X [a, b] (tAP X.K R C W (evP cf xs)))
    (hw : swappedStores [.Tuple [.Name x px, .Name y py] kt pt] (.Tuple [a, b] k2 pt2) X.env = pure (some [x, y])) :
    PS X (.Assign [.Tuple [.Name x px, .Name y py] kt pt] (.Tuple [a, b] k2 pt2) pos) (tS X.K R C W (exec cf R.β (.par own [i, j] xs))) := by
  refine (ps_par hc hN hi hj hij hx hy ha hw rfl).mono fun D σ H h => ?_
  obtain ⟨Hs, δ, wd, z⟩ := par_go (is := [i, j]) (show 2 ≤ lim by decide) hn h
  refine ⟨Hs, δ, wd, z.imp (fun rs δ1 hr vs Hs1 H1 w1 g1 ps => ?_) fun _ _ _ x => x⟩
  obtain ⟨q1, _, q2, _⟩ := hr vs Hs1 H1 w1 g1 ps
  match vs, q1 with
  | [v, w], _ => exact ⟨v, w, rfl, q2⟩
/-- .. where nothing is swapped: by way of the tuple -/
theorem s_parT {is : List Nat} {es : List Expr} {tge : Expr} {xs : Exs} {own : List Bool} {pos pt2 : Pos} {k2 : Nat} (hl : is.length ≤ lim) (hn : ∀ k ∈ is, k ∉ R.nas) (hg : PG X tge (gTup X.K is.length (gNames is))) (ha : PA X es (tAP X.K R C W (evP cf xs)))
    (hw : swappedStores [tge] (.Tuple es k2 pt2) X.env = pure none) (h1 : (assignEach [tge] X.env).map (·.2) = [assign tge X.env]) :
    PS X (.Assign [tge] (.Tuple es k2 pt2) pos) (tS X.K R C W (exec cf R.β (.par own is xs))) := by
  refine (ps_asg (pe_tup ha) hg rfl hw h1).mono fun D σ H h => ?_
  obtain ⟨Hs, δ, wd, z⟩ := par_go hl hn h
  refine ⟨Hs, δ, wd, z.imp (fun rs δ1 hr vs Hs1 H1 w1 g1 ps => ?_) fun _ _ _ x => x⟩
  obtain ⟨q1, q0, _, q2⟩ := hr vs Hs1 H1 w1 g1 ps
  exact ⟨q0, fun T hT => ⟨T, vs, rfl, .of upd_same, q1, gNames_set q1 (q2 T hT)⟩⟩
/-- three names, stored from the right -/
theorem s_par3 {i j k : Nat} {x y z : Str} {a b c : Expr} {xs : Exs} {own : List Bool} {px py pz pt pos : Pos} {kt k2 : Nat} {pt2 : Pos} (hc : X.calm = true) (hN : X.N.Nodup) (hi : X.N[i]? = some x) (hj : X.N[j]? = some y) (hk : X.N[k]? = some z) (hij : i ≠ j) (hik : i ≠ k) (hjk : j ≠ k)
    (hx : X.env.scope.names.lookup x = some .local) (hy : X.env.scope.names.lookup y = some .local) (hz : X.env.scope.names.lookup z = some .local) (hn : ∀ l ∈ [i, j, k], l ∉ R.nas) (ha : PA X [a, b, c] (tAP X.K R C W (evP cf xs)))
    (hw : swappedStores [.Tuple [.Name x px, .Name y py, .Name z pz] kt pt] (.Tuple [a, b, c] k2 pt2) X.env = pure (some [x, y, z])) :
    PS X (.Assign [.Tuple [.Name x px, .Name y py, .Name z pz] kt pt] (.Tuple [a, b, c] k2 pt2) pos) (tS X.K R C W (exec cf R.β (.par own [i, j, k] xs))) := by
  refine ⟨fun pins s σ H D I h => ?_⟩
  obtain ⟨Hs, δ, wd, q⟩ := par_go (is := [i, j, k]) (show 3 ≤ lim by decide) hn h
  rw [exec_Assign_arm]
  refine wpAny_bind (wpAny_standAt ?_)
  rw [show swapsWithSole [.Tuple [.Name x px, .Name y py, .Name z pz] kt pt] (.Tuple [a, b, c] k2 pt2) pos.line X.env = pure false from rfl]
  refine wpAny_bind (wpAny_pure ?_)
  rw [if_neg (by decide)]
  refine wpAny_bind (Tuple_ (thn (ha.run _ pins s σ H _ I ⟨Hs, δ, wd, q⟩) fun us s1 ⟨vs, H1, I1, r1, q1⟩ => ?_))
  obtain ⟨ql, _, q1, _⟩ := q1
  obtain ⟨v, w, u, rfl⟩ : ∃ v w u, vs = [v, w, u] := by
    match vs, ql with
    | [v, w, u], _ => exact ⟨v, w, u, rfl⟩
  obtain ⟨u1, u2, u3, rfl, rv, rw', ru⟩ : ∃ u1 u2 u3, us = [u1, u2, u3] ∧ RelV v u1 ∧ RelV w u2 ∧ RelV u u3 := by
    cases r1 with
    | cons p q =>
      cases q with
      | cons p' q' =>
        cases q' with
        | cons p2 q2 =>
          cases q2
          exact ⟨_, _, _, rfl, p, p', p2⟩
  refine wpAny_newObj_type ?_ (by show 3 ≤ sizeLine; decide)
  have I2 : Inv X pins σ H1 { s1 with heap := s1.heap.push { cls := .type "tuple", data := .seq [u1, u2, u3].toArray } } := I1.kept (t' := s1.toks) fun b o e => Heap.get?_push_of_some _ e
  rw [hw]
  refine wpAny_bind (wpAny_pure ?_)
  show wpAny (model X.prog X.w) X.A (do rule "assign.swapped-stores"; let items ← unpackItems (.ref s1.heap.objs.size) 3 none; assignInOrder [fun v => bindName X.env z v, fun v => bindName X.env y v, fun v => bindName X.env x v] items.reverse; pure Flow.next) _ _ _
  refine wpAny_bind (wpAny_rule (wpAny_bind (unpackItems_tuple (items := #[u1, u2, u3]) (I.ok.hd hc) (IsTup.new s1.heap _) fun h' hx' => ?_)))
  have I3 := I2.kept (h' := h') (t' := s1.toks) fun b o e => hx' b o (Nat.ne_of_lt (Heap.lt_size e)) e
  show wpAny _ _ (assignInOrder [fun v => bindName X.env z v, fun v => bindName X.env y v, fun v => bindName X.env x v] [u3, u2, u1] >>= fun _ => pure Flow.next) _ _ _
  refine wpAny_bind (assignInOrder_cons (wpAny_bindName (store_ok I3 hN hk (.inl hz) ru (fun s2 I4 => ?_) (.inr hz))))
  refine assignInOrder_cons (wpAny_bindName (store_ok I4 hN hj (.inl hy) rw' (fun s3 I5 => ?_) (.inr hy)))
  refine assignInOrder_cons (wpAny_bindName (store_ok I5 hN hi (.inl hx) rv (fun s4 I6 => assignInOrder_nil (wpAny_pure ?_)) (.inr hx)))
  rw [List.set_comm _ _ (Ne.symm hjk), List.set_comm _ _ (Ne.symm hik), List.set_comm _ _ (Ne.symm hij)] at I6
  exact ⟨_, H1, I6, q1⟩
/-- raise X(e), where nothing may be raised: never reached -/
theorem s_rse0 {c : Nat} {ca : Addr} {x : Str} {e : Expr} {ea : Ex} {p cpos pos : Pos} (hw : ∀ cls d σ H, ¬ W cls d σ H) (hc : X.calm = true) (hg : Gl X x) (hm : X.mg x = some (.ref ca)) (hk : PySem.W.keepIn X.K (.ref ca) = true) (hdb : (x == ("__debug__" : Str)) = false) (hs : NotStar e) (ha : PE X e (tE X.K R C W (ev cf ea))) :
    PS X (.Raise (some (.Call (.Name x p) [e] [] cpos)) none pos) (tS X.K R C W (exec cf R.β (.rse c ea))) := by
  refine ⟨fun pins s σ H D I ⟨Hs, δ, wd, h⟩ => ?_⟩
  rw [exec] at h
  have z : tE X.K R C W (ev cf ea) σ H fun _ H1 => ∀ a, H1 a = none → False := by
    refine tE_stmt wd h fun r δ1 v Hs1 H1 p k => ?_
    obtain ⟨Hs2, w2, g2, o2, _⟩ := p.opd
    obtain ⟨d, δ', Hs', w', g', hd, k⟩ := esc_ok w2 o2 k
    intro a ha
    have ex := Ext.newO (p := a) (o := .xd [(("value" : Str), v)]) w'.sub ha
    exact hw _ _ _ _ (k σ Hs' _ a v (w'.ext ex) upd_same hd)
  show wpAny _ _ (do standAt pos; raiseStmt X.env (some (do let v ← eval (.Call (.Name x p) [e] [] cpos) X.env; standAt pos; pure v)) none) _ _ _
  refine wpAny_bind (wpAny_standAt (raise_made (I.ok.hd hc) (wpAny_bind ?_)))
  refine wpAny_Call_Name_kw (ld_glob I hg hm ?_ hdb)
  exact PySem.W.callWith_K (h₀ := X.base) I.ok.mod.kin hk (args_cons (thn (ha.run pins s σ H _ I z) fun us s1 ⟨x, H1, I1, r, q⟩ => (q _ (I1.hok.fresh (Nat.le_refl _))).elim) (star_of hs)) (star_of hs) rfl
end
end Rf
set_option linter.all false
set_option maxRecDepth 100000
set_option maxHeartbeats 2000000
set_option Elab.async false
/-! Rf: an own exception class whose __init__ says super().__init__(value) and keeps self.value. -/
namespace Rf
open PySem PySem.Spec PyProof.Rows L2 PySem.Calls
/-- such an __init__: its body -/
def iniBody (p0 p1 ap pv cp ep pa pv2 pb pw : Pos) : List Stmt := [.Expr (.Call (.Attribute (.Call (.Name "super" p0) [] [] p1) "__init__" ap) [.Name "value" pv] [] cp) ep, .Assign [.Attribute (.Name "self" pv2) "value" pa] (.Name "value" pw) pb]
structure IniOk (prog : Program) (K : PySem.W.Frag) (mg : Str → Option Value) (C fI : Addr) : Prop where
  oex : OexC K C
  find : PySem.W.findIn K (.ref C) "__init__" = some (some (.ref fI))
  typ : PySem.W.typeIn K (.ref fI) = some (.type "function")
  va : PySem.W.findIn K (.ref C) "value" = some none
  ini : PySem.W.ks_superIn K C C "__init__" = some (some (.builtin "ValueError.__init__"))
  sub : PySem.W.subIn K (.ref C) (.type "ValueError") = some true
  self : PySem.W.mroIn K C (.ref C) = some true
  opq : PySem.W.nsIn K cStatics "thirdparty.any" = some none
  sup : mg "super" = none
  top : (prog.main.scope.names.lookup ("super" : Str)).isSome = false
  fn : ∃ (oc ccl cl : Value) (od cdd cld : Option Addr) (osl ccs csl : Array (Option Value)) (qual file : Str) (tf : Tok) (params : Arguments) (dV kV doc pm ct : Value) (an : Option Addr) (cda cc : Addr) (vs : Array Value) (ar : PySem.Arg) (p0 p1 ap pv cp ep pa pv2 pb pw : Pos),
    K.lookup fI = some ⟨oc, od, .func (PySem.W.ksFn "__init__" qual params (iniBody p0 p1 ap pv cp ep pa pv2 pb pw) iniScope dV kV doc pm an (.ref cda) ct cc), osl⟩ ∧ (params.posonlyargs ++ params.args).head? = some ar ∧ ar.arg = "self" ∧
    PySem.W.codeIn K (.ref cda) qual = true ∧ K.lookup cda = some ⟨ccl, cdd, .fields vs, ccs⟩ ∧ vs[2]? = some (.str file tf) ∧ ((prog.main.file : Str) == file) = true ∧ K.lookup cc = some ⟨cl, cld, .cell (some (.ref C)), csl⟩ ∧ (ap.endLine == cp.line) = true ∧
    ∀ (s : Shared) (e v : Value), K.In s.heap → BindsTo s (PySem.W.ksFn "__init__" qual params (iniBody p0 p1 ap pv cp ep pa pv2 pb pw) iniScope dV kV doc pm an (.ref cda) ct cc) ⟨[e, v], []⟩ [("self", e), ("value", v)]
theorem ini_call {o : Expr} {m : Str} {apos pos : Pos} {a : Expr} {env : Env} (hline : (apos.endLine == pos.line) = true) (hs : starEach [a] env = [(false, eval a env)] := by rfl) : eval (.Call (.Attribute o m apos) [a] [] pos) env = (do
      let ov ← attributeBase o m env (eval o env)
      standAt apos.atName
      let (f, first) ← holding [ov] (getMethod ov m (do return (← importBound o env).getD true))
      callWith pos f first (backTo pos (starEach [a] env)) []) := by
  rw [arm_eval_Call]
  simp only [methodCall, calleeOf, methodCallPos, hline, Bool.or_true, if_true, pure_bind]
  rw [hs]
  rfl
section
open PySem.W
variable {prog : Program} {w : World} {A : Around} {E : Value → Shared → Prop} {h : Heap} {g : Array GenState} {d : Drawn} {t : Nat} {os : OsState}
variable {nm q : Str} {C N : Addr} {bs bm : List Value} {hdct : Bool} {sn : List Str} {sub : List Value} {ab : Bool} {col : Option Bool} {dd : Option Addr} {k0 k1 k2 k3 k5 : Option Value}
theorem mw_call {u e t0 : Addr} {rest : List Value} {Q : Value → Shared → Prop}
    (hC : h.get? C = some (excClassObj nm q C N bs bm hdct sn sub ab col dd k0 k1 k2 k3 k5 "ValueError.__new__")) (he : h.get? e = some (PySem.HandSPX.excO C t0)) (hu : h.get? u = some (kxs_mw "ValueError.__init__" e)) (hrest : rest.length ≤ sizeLine)
    (hq : ∀ h' t1, (∀ b o, b ≠ e → h.get? b = some o → h'.get? b = some o) → h'.get? e = some (PySem.HandSPX.excO C t1) → Q .none ⟨h', g, d, t, os⟩) :
    wpAny (model prog w) A (call (.ref u) rest) Q E ⟨h, g, d, t, os⟩ := by
  refine wpAny_call (codeAny_of_tree ?_)
  show wpAny _ A.in1 (callAny (.ref u) ⟨rest, []⟩) _ _ _
  simp only [callAny]
  refine wpAny_bind (wpAny_load hu ?_)
  simp only [kxs_mw, show (Value.type "method-wrapper" == Value.type "method" || Value.type "method-wrapper" == Value.type "builtin_function_or_method" || Value.type "method-wrapper" == Value.type "method-wrapper") = true by decide, if_true]
  refine KFB.if_so (by decide) ?_
  refine wpAny_bind (check_bound_init PySem.F.excBase_ValueError.toExcCallFacts hC he rfl ?_)
  refine wpAny_bind (wpAny_pure (wpAny_pure ?_))
  refine ⟨plainId_quiet PySem.F.excBase_ValueError.init.plain _, codeAny_builtin PySem.F.excBase_ValueError.initEntry ?_⟩
  exact exc_init_tree (cls := .ref C) (t0 := t0) (dv := none) (c2 := .none) (c3 := .none) (b4 := .bool false) he hrest (fun h4 k4 he4 _ => hq h4 _ k4 he4)
end
section
variable {prog : Program} {w : World} {A : Around} {K : PySem.W.Frag} {mg : Str → Option Value} {C fI : Addr}
open PySem.W in
theorem ini_run (T : IniOk prog K mg C fI) {s : Shared} {e t0 : Addr} {v : Value} {R : Result → Shared → Prop} {mb : Str → Option Value} (X : K.In s.heap) (hg : s.heap.Ns mainGlobals mg) (hb : s.heap.Ns builtinsNs mb) (hmb : ∀ x : Str, x ≠ "__name__" → mb x = bootBuiltins x) (nolim : s.heap.NoLimit) (hroom : A.depth < recursionLimit) (hfree : K.lookup e = none)
    (he : s.heap.get? e = some (PySem.HandSPX.excO C t0))
    (hq : ∀ (h' : Heap) (tk : Nat) (dx t1 : Addr), (∀ b o, b ≠ e → s.heap.get? b = some o → h'.get? b = some o) → s.heap.objs.size ≤ dx → dx ≠ e → h'.get? e = some { cls := .ref C, dict := some dx, data := .fields #[.ref t1, .none, .none, .none, .bool false, .none] } →
      h'.Ns1 dx (fun y => if y = ("value" : Str) then some v else none) → R (.ok (.ret .none)) { s with heap := h', toks := tk }) :
    codeAny (model prog w) A (.call (.ref fI) ⟨[.ref e, v], []⟩) R s := by
  obtain ⟨oc, ccl, cl, od, cdd, cld, osl, ccs, csl, qual, file, tf, params, dV, kV, doc, pm, ct, an, cda, cc, vs, ar, p0, p1, ap, pv, cp, ep, pa, pv2, pb, pw, lk, hp, har, hcd, lc, hvs, hfile, lcc, hline, hbind⟩ := T.fn
  obtain ⟨⟨nm, q, N, bs, bm, sn, sub, ab, col, dd, k0, k1, k2, k3, k5, hC, hbm⟩, hsa, _, _, _⟩ := T.oex
  have hcl : PySem.W.clsIn K C = some { name := nm, bases := bs, mro := .ref C :: bm, ns := N, qualname := q, hasDict := true, slotNames := sn, subclasses := sub, abstract := ab, collection := col, hasDel := false } := by unfold PySem.W.clsIn; rw [hC] <;> rfl
  refine ks_codeAny_call_defAt hroom (X _ _ lk) rfl nolim (codeRec_of X hcd) rfl (hbind s _ _ X) (fun y hy => ?_) (fun y hy => ?_) (fun h₁ hns hk₁ => ?_)
  · have hy : y ∈ iniScope.names := hy
    have key : ∀ y ∈ iniScope.names, y.2 ≠ .cell := by decide
    exact key y hy
  · simp only [List.mem_cons, List.not_mem_nil, or_false] at hy
    rcases hy with rfl | rfl <;> rfl
  have X1 : K.In h₁ := X.keeps hk₁
  have he1 := hk₁ _ _ he
  refine ks_wpAt_execs_cons (ks_wpAt_Expr_any (ks_wpAt_MethodCall (he := ini_call hline) (pl := _) (ks_wpAt_super_base rfl rfl rfl rfl (X1 _ _ lk) rfl hp rfl (X1 _ _ lc) rfl hvs hfile T.top ?_)))
  have heC : e ≠ C := fun z => by
    rw [z] at he
    have := X _ _ hC
    rw [he] at this
    cases this
  refine ks_loadName_global rfl rfl (loadGlobal_builtin (hg.keeps hk₁) T.sup (hb.keeps hk₁) ((hmb _ (by decide +kernel)).trans (by decide +kernel : bootBuiltins "super" = some (.type "super"))) ⟨rfl, ?_⟩)
  refine wpAny_loadName_free rfl rfl rfl ⟨_, X1 _ _ lcc, rfl⟩ ?_
  rw [har]
  refine wpAny_loadName_local rfl rfl hns (v := .ref e) rfl ?_
  refine ks_wpAny_isType_cls (X1 _ _ hC) rfl ⟨rfl, ?_⟩
  refine ks_wpAny_call_super (X1 _ _ hC) rfl he1 rfl (fun c z => by cases z) (looks_mroIn X1 T.self) (fun h2 e2 k2 => ?_)
  have X2 := X1.keeps k2
  have he2 := k2 _ _ he1
  have hini := T.ini
  unfold ks_superIn at hini
  rw [hcl, Option.bind_some] at hini
  have hI : Looks (model prog w) h2 (isInstance (.ref e) (.type "ValueError")) true := (InstAt.type (od := none) ⟨he2, rfl, rfl, trivial⟩).andThen (looks_subIn X2 T.sub)
  refine kxs_getMethod kxs_ValueError e2 (looks_opaque X2 T.opq) (l₀ := .ref C :: bm) ?_ rfl X2 hini hI heC rfl ?_
  · exact fun A Q E s k q => wpAny_bind ((looks_clsIn X2 hcl) A _ E s k (wpAny_pure q))
  refine kxs_callWith (i := "ValueError.__init__") (x := e) (by rfl) ?_
  have k3 : ∀ b o, h2.get? b = some o → (h2.push (kxs_mw "ValueError.__init__" e)).get? b = some o := fun b o z => Heap.get?_push_of_some _ z
  have X3 := X2.keeps k3
  have he3 := k3 _ _ he2
  have hns3 := (hns.keeps k2).keeps k3
  have hu : (h2.push (kxs_mw "ValueError.__init__" e)).get? h2.objs.size = some (kxs_mw "ValueError.__init__" e) := Heap.get?_push_size _ rfl
  have k13 : ∀ b o, s.heap.get? b = some o → (h2.push (kxs_mw "ValueError.__init__" e)).get? b = some o := fun b o z => k3 _ _ (k2 _ _ (hk₁ _ _ z))
  have hue : h2.objs.size ≠ e := Nat.ne_of_gt (Heap.lt_size he2)
  generalize h2.push (kxs_mw "ValueError.__init__" e) = h3 at *
  refine evalArgs_plain (spliced_cons (wpAny_Name (wpAny_loadName_local rfl rfl hns3 (v := v) rfl ?_) rfl))
  refine spliced_nil ⟨hu, ?_⟩
  refine mw_call (X3 _ _ hC) he3 hu (by rw [sizeLine_eq]; simp) (fun h4 t1 k4 he4 => ?_)
  have hLe : s.heap.objs.size ≠ e := Nat.ne_of_gt (Heap.lt_size he)
  have hns4 : h4.Ns s.heap.objs.size (fun x => ([("self", Value.ref e), ("value", v)] : List (Str × Value)).reverse.lookup x) := by
    obtain ⟨oL, es, ep, hL, r⟩ := hns3
    exact ⟨oL, es, ep, k4 _ _ hLe hL, r⟩
  have X4 : K.In h4 := fun a o z => k4 a o (fun y => by rw [y, hfree] at z; cases z) (X3 a o z)
  refine ks_wpAt_execs_cons (ks_wpAt_Assign_Attr (wpAt_of_wpAny (wpAny_Name (wpAny_loadName_local rfl rfl hns4 (v := v) rfl (wpAny_Name (wpAny_loadName_local rfl rfl hns4 (v := .ref e) rfl ?_) rfl)) rfl)) rfl)
  refine PySem.W.set_plain X4 (ox := PySem.HandSPX.excO C t1) (od := none) ⟨he4, rfl, rfl, trivial⟩ hsa ?_
  refine PySem.HandSPX.exc_osa X4 he4 hcl (show PySem.HandSPX.refsVE (.ref C :: bm) = true from hbm) rfl T.va (fun h' tk' dx k dn dne hx hn => ?_)
  refine wpAt_of_wpAny (wpAny_pure ?_)
  have fin : ∀ b o, b ≠ e → s.heap.get? b = some o → h'.get? b = some o := fun b o hb z => k b o hb (k4 b o hb (k13 b o z))
  have hsz : s.heap.objs.size ≤ dx := by
    obtain ⟨oL, es, ep, hL, r⟩ := hns4
    exact Nat.le_trans (Nat.le_of_lt (Heap.lt_size hL)) dn
  exact hq h' tk' dx t1 fin hsz dne hx hn
end
section
variable {X : Cx} {x : Str} {C fI : Addr} {e : Expr} {ta : TE} {p pos : Pos}
open PySem.W in
theorem make_room {k : Nat} {A : Around} (r : Room k A) (C : Addr) (us : List Value) (kw : List (Str × Value)) : (A.under (.builtin "type.__call__" ⟨.ref C :: us, kw⟩)).depth < recursionLimit := by
  have := r.dp
  rw [make_depth]; omega
theorem pmk_ini {k : Nat} (T : IniOk X.prog X.K X.mg C fI) (hr : Room k X.A) (hg : Gl X x) (hm : X.mg x = some (.ref C)) (hs : NotStar e) (ha : PE X e ta) (hdb : (x == ("__debug__" : Str)) = false) :
    PMk X (.Call (.Name x p) [e] [] pos) (fun σ H Q => ta σ H fun v H1 => ∀ d, H1 d = none → Q (.ref C) (some d) (upd H1 d (.xd [(("value" : Str), v)]))) := by
  intro pins s σ H Q I h
  obtain ⟨nm, q, N, bs, bm, sn, sub, ab, col, dd, k0, k1, k2, k3, k5, hC, hbm⟩ := T.oex.cls
  refine wpAny_Call_Name_kw (ld_glob I hg hm ?_ hdb)
  refine PySem.W.callWith_K (h₀ := X.base) I.ok.mod.kin T.oex.kC (args_cons (thn (ha.run pins s σ H _ I h) fun u s1 ⟨v, H1, I1, r1, q1⟩ => args_nil ⟨I1.kIn, ?_⟩) (star_of hs)) (star_of hs) rfl
  show wpAny _ _ (call (.ref C) [u]) _ _ _
  obtain ⟨hp, g, dr, tk, os⟩ := s1
  have hsz : hp.objs.size ≤ hp.objs.size + 1 := Nat.le_succ _
  have hn : H1 (hp.objs.size + 1) = none := I1.hok.fresh hsz
  have kk : ∀ b o, hp.get? b = some o → ((hp.push (PySem.W.kdv_tup [u])).push (PySem.HandSPX.excO C hp.objs.size)).get? b = some o := fun b o z => Heap.get?_push_of_some _ (Heap.get?_push_of_some _ z)
  have hget : ((hp.push (PySem.W.kdv_tup [u])).push (PySem.HandSPX.excO C hp.objs.size)).get? (hp.objs.size + 1) = some (PySem.HandSPX.excO C hp.objs.size) := by heap_get
  have I2 : Inv X pins σ (upd H1 (hp.objs.size + 1) (exo (hp.objs.size + 1) C none)) ⟨(hp.push (PySem.W.kdv_tup [u])).push (PySem.HandSPX.excO C hp.objs.size), g, dr, tk, os⟩ :=
    I1.laid (t' := tk) (a := hp.objs.size + 1) (o := exo (hp.objs.size + 1) C none) (h' := (hp.push (PySem.W.kdv_tup [u])).push (PySem.HandSPX.excO C hp.objs.size)) kk hsz (exo_ok hget)
  generalize hh : (hp.push (PySem.W.kdv_tup [u])).push (PySem.HandSPX.excO C hp.objs.size) = hp2 at *
  have hfree : X.K.lookup (hp.objs.size + 1) = none := by
    cases z : X.K.lookup (hp.objs.size + 1) with
    | none => rfl
    | some o =>
      have := Heap.lt_size (I1.kIn _ _ z)
      exact absurd this (Nat.not_lt.mpr hsz)
  obtain ⟨mb, b1, b2⟩ := I2.mod.blt
  refine wpAny_call (PySem.HandSPX.call_own F.excBase_ValueError (fun Y => PySem.HandSPX.refsVE_contains Y bm hbm) (I1.kIn _ _ hC) (PySem.W.looks_findIn I1.kIn T.find) (fun self => PySem.W.bind_fn I1.kIn self T.typ) (by rw [sizeLine_eq]; simp) ?_)
  rw [hh]
  generalize hae : hp.objs.size + 1 = a at *
  have ea : (upd H1 a (exo a C none)) a = some (exo a C none) := upd_same
  refine ini_run T I2.kIn (I2.mod.glob.keeps I2.bk) (b1.keeps I2.bk) b2 I2.nolimit (make_room hr C _ _) hfree hget (fun h' tk' dx t1 k dn dne hx hns => ?_)
  have hnd : (upd H1 a (exo a C none)) dx = none := I2.hok.fresh dn
  have hnd1 : H1 dx = none := by rw [upd_ne dne] at hnd; exact hnd
  generalize hHa : upd H1 a (exo a C none) = Ha at *
  have nd : ∀ {b : Addr} {o : Obj}, hp2.get? b = some o → b ≠ dx := fun {b o} q => Nat.ne_of_lt (Nat.lt_of_lt_of_le (Heap.lt_size q) dn)
  have na : ∀ {b : Addr}, Ha b = none → b ≠ a := fun {b} n z => by
    rw [z, ea] at n
    cases n
  have rel : ∀ f, RelO ([(("value" : Str), v)].lookup f) ((fun y => if y = ("value" : Str) then some u else none) f) := relO_put (fs := []) r1 fun g => True.intro
  have un : ∀ fr, Un fr [] Ha (upd (upd Ha dx (exd dx [(("value" : Str), v)])) a (exo a C (some dx))) hp2 h' := fun fr => {
    keep := fun b o q n _ _ => k b o (na n) q
    slot := fun b o q n _ _ => ⟨o.slots, k b o (na n) q⟩
    free := fun b o q n _ => by rw [upd_ne (na n), upd_ne (nd q)]; exact n
    there := fun b o q _ => by
      by_cases hb : b = a
      · exact ⟨_, by rw [hb]; exact hx⟩
      · exact ⟨o, k b o hb q⟩
    tups := fun b xs q => by rw [upd_ne (at_ne ea q exo_tup), upd_ne (ne_of_none q hnd)]; exact q
    frzs := fun b o v q => by rw [upd_ne (at_ne ea q exo_frz), upd_ne (ne_of_none q hnd)]; exact q
    tbls := fun b ps q => ⟨#[], by rw [upd_ne (at_ne ea q exo_tbl), upd_ne (ne_of_none q hnd), q]; simp⟩ }
  have hok : HOk X.prog X.w (upd (upd Ha dx (exd dx [(("value" : Str), v)])) a (exo a C (some dx))) h' := fun b o q => by
    by_cases hb : b = a
    · subst hb
      rw [upd_same] at q
      cases q
      exact exo_ok hx
    · rw [upd_ne hb] at q
      by_cases hd : b = dx
      · subst hd
        rw [upd_same] at q
        cases q
        exact exd_ok hns rel
      · rw [upd_ne hd] at q
        exact (I2.hok b o q).stay (fun c v hc z => k c v (by
            rcases hc with hc | hc
            · rw [hc]
              exact hb
            · exact at_ne ea hc exo_own) z)
          (fun c hc => by rw [upd_ne (at_ne ea hc exo_own), upd_ne (ne_of_none hc hnd)]; exact hc) (fun c xs hc => by rw [upd_ne (at_ne ea hc exo_tup), upd_ne (ne_of_none hc hnd)]; exact hc)
  refine ⟨rfl, mk_end (fs := [(("value" : Str), v)]) (d := dx) (raises_own T.oex.exC T.oex.tyC) I1 (by omega) kk (by rw [hHa]; exact un _) hok rfl I1.bare upd_same (by rw [upd_ne dne, upd_same]) hnd1 ?_⟩
  have eq : upd (del (upd (upd Ha dx (exd dx [(("value" : Str), v)])) a (exo a C (some dx))) a) dx (.xd [(("value" : Str), v)]) = upd H1 dx (.xd [(("value" : Str), v)]) := by
    funext b
    by_cases hb : b = dx
    · rw [hb, upd_same, upd_same]
    · rw [upd_ne hb, upd_ne hb]
      by_cases hba : b = a
      · rw [hba, del_same, hn]
      · rw [del_ne hba, upd_ne hba, upd_ne hb, ← hHa, upd_ne hba]
  rw [eq]
  exact q1 dx hnd1
end
/-- raise X(e) -/
theorem s_rse {X : Cx} {R : Rg} {C : Nat → Addr} {W : WX} {cf : CF} {c k : Nat} {fI : Addr} {x : Str} {e : Expr} {ea : Ex} {p cpos pos : Pos} (T : IniOk X.prog X.K X.mg (C c) fI) (hr : Room k X.A) (tk : Takes X W) (hc : X.calm = true) (hg : Gl X x) (hm : X.mg x = some (.ref (C c))) (hdb : (x == ("__debug__" : Str)) = false) (hs : NotStar e) (ha : PE X e (tE X.K R C W (ev cf ea))) :
    PS X (.Raise (some (.Call (.Name x p) [e] [] cpos)) none pos) (tS X.K R C W (exec cf R.β (.rse c ea))) :=
  (ps_raise hc tk (pmk_ini T hr hg hm hs ha hdb)).mono fun D σ H ⟨Hs, δ, wd, h⟩ => by
    rw [exec] at h
    refine tE_stmt wd h fun r δ1 v Hs1 H1 p k => ?_
    obtain ⟨Hs2, w2, g2, o2, _⟩ := p.opd
    obtain ⟨d, δ', Hs', w', g', hd, k⟩ := esc_ok w2 o2 k
    intro a ha
    have ex := Ext.newO (p := a) (o := .xd [(("value" : Str), v)]) w'.sub ha
    exact k σ Hs' _ a v (w'.ext ex) upd_same hd
end Rf
set_option linter.all false
set_option maxRecDepth 100000
set_option maxHeartbeats 2000000
set_option Elab.async false
/-! Rf: a lambda called some frames below its maker's. -/
namespace Rf
open PySem PySem.Spec PyProof.Rows L2 LamX
/-- a frame more between -/
theorem un_two {fr : List Addr} {f : Addr} {H HG HZ : Hp} {h1 h2 h3 : Heap} (a : Un fr [] H HG h1 h2) (b : Un (f :: fr) [] HG HZ h2 h3) (hf : h1.objs.size ≤ f) : Un fr [] H HZ h1 h3 := by
  have nf : ∀ {x : Addr} {o : Obj}, h1.get? x = some o → x ≠ f := fun e => Nat.ne_of_lt (Nat.lt_of_lt_of_le (Heap.lt_size e) hf)
  exact {
    keep := fun x o e n h y => b.keep x o (a.keep x o e n h y) (a.free x o e n y) (fun z => (List.mem_cons.mp z).elim (nf e) h) y
    slot := fun x o e n h y => by
      obtain ⟨s1, e1⟩ := a.slot x o e n h y
      obtain ⟨s2, e2⟩ := b.slot x _ e1 (a.free x o e n y) (List.mem_cons_of_mem _ h) y
      exact ⟨s2, e2⟩
    free := fun x o e n y => by
      obtain ⟨s1, e1⟩ := a.any e n y
      exact b.free x _ e1 (a.free x o e n y) y
    there := fun x o e y => by
      obtain ⟨o1, e1⟩ := a.there x o e y
      exact b.there x o1 e1 y
    tups := fun x xs e => b.tups x xs (a.tups x xs e)
    frzs := fun x o u e => b.frzs x o u (a.frzs x o u e)
    tbls := fun x ps e => by
      obtain ⟨m1, e1⟩ := a.tbls x ps e
      obtain ⟨m2, e2⟩ := b.tbls x _ e1
      exact ⟨m1 ++ m2, by rw [e2, Array.append_assoc]⟩ }
section
variable {X : Cx} {pins : List (Addr × Obj)} {σ : L2.St} {H : Hp} {s : Shared}
/-- x(), x the lambda, in a frame below its maker's -/
theorem act2 {CXg : CXT} {Eg : XK} {Ng : List Str} {qg : Str} {sg : Scope} {g f c' : Addr} {cdg pm ctv : Value} {params : Arguments} {body : Expr} {scope : Scope} {k i : Nat} {a : Str} {pn : List (Addr × Obj)} {xe : Value → Shared → Prop} {W : WX} {E : XK} {tb : TE} {p1 p2 : Pos}
    {A' : Around} {outer' : List Env} {s' : Shared} {H' : Hp}
    (I : Inv X pins σ H s) (L : LamS X.env.scope scope) (hf : s.heap.get? f = some (PySem.W.kla_obj "<lambda>" (X.env.qual ++ "<lambda>") params body scope (cloFrom X.env.cells scope.names []) pm c' ctv)) (hfn : H f = none) (hfr : f ∉ frs X.stack)
    (hbind : bindArgs (PySem.W.kla_fn "<lambda>" (X.env.qual ++ "<lambda>") params body scope (cloFrom X.env.cells scope.names []) pm (.ref c') ctv) ⟨[], []⟩ = pure [])
    (un2 : ∀ (HZ : Hp) (hZ : Heap), Un (frs outer') [] H' HZ s'.heap hZ → Un (frs X.stack) [] H HZ s.heap hZ)
    (tk : Takes ((cxOf CXg X.prog X.w X.K X.mg X.base Ng qg sg g cdg A' outer' s' H' Eg).tr pn xe) W) (hW : ∀ cls d σ' H', E cls d H' → W cls d σ' H') (hr : Room (k + 1) (A'.deeper (envOfC qg sg s'.heap.objs.size g cdg)))
    (hbody : ∀ (A : Around) (outer : List Env) (s : Shared) (H : Hp), Room k (A.deeper (lamEnv X scope s.heap.objs.size f c')) → PE (lamCx X A outer s H E scope f c') body tb)
    (hN : Ng[i]? = some a) (hv : Vis sg a) (hd : (a == ("__debug__" : Str)) = false := by decide) (hcd : (a == ("__classdict__" : Str)) = false := by decide) :
    PE ((cxOf CXg X.prog X.w X.K X.mg X.base Ng qg sg g cdg A' outer' s' H' Eg).tr pn xe) (.Call (.Name a p1) [] [] p2)
      (fun σZ HZ Q => σZ[i]? = some (some (.ref f)) ∧ HZ c' = some (CodeO c' (X.env.qual ++ "<lambda>")) ∧ tb σ HZ Q) := by
  refine ⟨fun pinsZ sZ σZ HZ Q IZ ⟨hs, hc, ht⟩ => ?_⟩
  refine wpAny_Call_Name_kw (thn ((pe_var (pos := p1) (i := i) hN hv hd hcd).run pinsZ sZ σZ HZ (fun v H1 => v = .ref f ∧ H1 = HZ) IZ ⟨.ref f, hs, rfl, rfl⟩) ?_)
  rintro u s1 ⟨v, H1, I1, r1, rfl, rfl⟩
  obtain rfl : u = Value.ref f := r1
  have un : Un (frs X.stack) [] H H1 s.heap s1.heap := un2 H1 s1.heap I1.base
  have of1 := un.keep f _ hf hfn hfr (fun z => nomatch (show f ∈ ([] : List Addr) from z))
  refine PySem.W.callWith_F0 ⟨_, _, _, _, of1⟩ ?_
  obtain ⟨⟨oc, vs, t, hoc, hdc, hvc⟩, _, _⟩ := I1.hok c' _ hc
  have rc : codeAny (model X.prog X.w) (A'.deeper (envOfC qg sg s'.heap.objs.size g cdg)) (.call (.ref f) ⟨[], []⟩) (CR (L2.CX X.prog X.w) (envOfC qg sg s'.heap.objs.size g cdg :: outer') X.prog X.w H1 s1 Q E) s1 := by
    refine PySem.W.kla_callFunE hr.depth of1 rfl L.co L.gen rfl ⟨c', oc, vs, t, rfl, hoc, hdc, hvc⟩ ?_
    rw [hbind]
    refine wpAny_pure (wpAny_newFunctionEnv (fun y hy => (L.own y hy).2) (fun y hy => absurd hy (by simp)) (fun h₁ hns hsb => ⟨I1.nolimit.fresh _ hsb, ?_⟩) L.kind)
    show codeAny _ _ (.expr body (lamEnv X scope s1.heap.objs.size f c')) _ _
    have kp : ∀ b o, s1.heap.get? b = some o → h₁.get? b = some o := fun b o e => hsb.extBut b o (Nat.ne_of_lt (Heap.lt_size e)) (Heap.get?_push_of_some _ e)
    have J : Inv (lamCx X (A'.deeper (envOfC qg sg s'.heap.objs.size g cdg)) (envOfC qg sg s'.heap.objs.size g cdg :: outer') s1 H1 E scope f c') [] σ H1 { s1 with heap := h₁, toks := s1.toks + ([] : List (Str × Value)).length } :=
      lam_start2 I L I1.env0 hr.hd un hns kp
    refine PySem.W.kla_codeExpr (wpAny_mono ((hbody _ _ s1 H1 (hr.deeper _)).run [] _ _ H1 Q J ht) (fun v s' hq => ?_) fun e s' hq => hq)
    obtain ⟨w', H', J', rv, q⟩ := hq
    exact ⟨w', H', J'.os, J'.bare, J'.base, J'.hok, rv, q⟩
  have hx : Passes (L2.CX X.prog X.w) ((cxOf CXg X.prog X.w X.K X.mg X.base Ng qg sg g cdg A' outer' s' H' Eg).tr pn xe) E := passes_call tk hW
  refine wpAny_call (codeAny_mono rc fun r s' hq => ?_)
  cases r with
  | error e => exact hx pinsZ σZ H1 s1 e s' I1 hq
  | ok fl =>
    cases fl with
    | ret u => exact I1.after hq
    | next => exact hq.elim
    | brk => exact hq.elim
    | cont => exact hq.elim
end
end Rf
set_option linter.all false
set_option maxRecDepth 100000
set_option maxHeartbeats 2000000
set_option Elab.async false
/-! Rf: a lambda is made; the state behind it. -/
namespace Rf
open PySem PySem.Spec PyProof.Rows L2 LamX
/-- what the making of a lambda does to the abstract heap -/
structure Lm (H H1 : Hp) : Prop where
  ext : ExtN H H1
  tab : ∀ b ps, H1 b = some (.tbl ps) → ∃ qs, H b = some (.tbl qs)
  dom : ∀ b, H b ≠ none → H1 b ≠ none
section
variable {X : Cx} {pins : List (Addr × Obj)} {σ : L2.St} {H : Hp} {s : Shared}
theorem lam_make3 {c P : Addr} {params : Arguments} {body : Expr} {scope : Scope} {pos : Pos} {E : Value → Shared → Prop} {Q : Value → Shared → Prop} (I : Inv X pins σ H s) (TB : TabB X.base X.mg c P) (hcode : X.env.code = .ref c)
    (hm : (P, X.env.qual ++ "<lambda>") ∈ tbl X.K) (hu : ∀ p ∈ tbl X.K, p.1 = P → p.2 = X.env.qual ++ "<lambda>") (hT : Tabs (tbl X.K) H) (hdef : defaultsOf params X.env = ([], [])) (hfree : ∀ y ∈ scope.names, y.2 = .free → ∃ c, X.env.cells.lookup y.1 = some c)
    (h : ∀ (f c' : Addr) (pm ctv : Value) (H1 : Hp) (s' : Shared), Inv X pins σ H1 s' → Lm H H1 → Tabs (tbl X.K) H1 →
      s'.heap.get? f = some (PySem.W.kla_obj "<lambda>" (X.env.qual ++ "<lambda>") params body scope (cloFrom X.env.cells scope.names []) pm c' ctv) → H1 f = none → f ∉ frs X.stack → H1 c' = some (CodeO c' (X.env.qual ++ "<lambda>")) → Q (.ref f) s') :
    wpAny (model X.prog X.w) X.A (eval (.Lambda params body scope pos) X.env) Q E s := by
  obtain ⟨ps, hP, ht, ha⟩ := hT _ hm
  refine PySem.W.kla_eval hdef ?_
  have bP := TB.bm.keeps I.bk
  have hP' : s.heap.get? P = some { cls := .none, data := .fields ps } := I.hok P _ hP
  have far : ∀ f, s.heap.objs.size ≤ f → f ∉ frs X.stack := fun f hf z => by
    rcases List.mem_cons.mp (I.stkSub _ z) with e | e
    · have h1 := I.lt
      rw [← e] at h1
      exact Nat.lt_irrefl _ (Nat.lt_of_lt_of_le h1 hf)
    · exact I.nofs hf e
  cases hc : codeAmong pos ps.toList with
  | some cv =>
    obtain ⟨c', rfl, hco⟩ := ha pos cv hc
    refine PySem.W.kla_makeFunctionHit (mg := X.mg) (c := c) (P := P) (ps := ps) (closure_ok hfree) I.ok.glob (I.mod.glob.keeps I.bk) hcode (TB.code.keeps I.bk) hP' ht hc bP fun ctv h' tk hx hsz => ?_
    have I1 : Inv X pins σ H { s with heap := h'.push (PySem.W.kla_obj "<lambda>" (X.env.qual ++ "<lambda>") params body scope (cloFrom X.env.cells scope.names []) ((X.mg "__name__").getD .none) c' ctv), toks := tk } := I.kept fun b o e => Heap.get?_push_of_some _ (hx b o e)
    exact h _ c' _ ctv H _ I1 ⟨ExtN.refl H, fun b qs e => ⟨qs, e⟩, fun _ n => n⟩ hT (Heap.get?_push_size _ rfl) (I.hok.fresh hsz) (far _ hsz) hco
  | none =>
    refine PySem.W.kla_makeFunction (mg := X.mg) (c := c) (P := P) (ps := ps) (closure_ok hfree) I.ok.glob (I.mod.glob.keeps I.bk) hcode (TB.code.keeps I.bk) hP' ht hc TB.gP bP fun c' ctv h' tk hx hge hlt hrec htb => ?_
    obtain ⟨c2, oc, vs, t, e2, hoc, hd, hv⟩ := hrec
    cases e2
    have hsz : s.heap.objs.size ≤ h'.objs.size := by omega
    have nC : H c' = none := I.hok.fresh hge
    have nPc : c' ≠ P := fun z => by rw [z, hP] at nC; cases nC
    have I1 := inv_table (t' := tk) (more := #[rawInt pos.line, rawInt pos.col, .ref c']) (h' := h'.push (PySem.W.kla_obj "<lambda>" (X.env.qual ++ "<lambda>") params body scope (cloFrom X.env.cells scope.names []) ((X.mg "__name__").getD .none) c' ctv)) I hP
      (fun b o hb e => Heap.get?_push_of_some _ (hx b o hb e)) (Heap.get?_push_of_some _ htb) hge ⟨oc, vs, t, Heap.get?_push_of_some _ hoc, hd, hv⟩
    generalize hH1 : upd (upd H P (.tbl (ps ++ #[rawInt pos.line, rawInt pos.col, .ref c']))) c' (CodeO c' (X.env.qual ++ "<lambda>")) = H1 at *
    have at1 : ∀ b, b ≠ P → b ≠ c' → H1 b = H b := fun b n1 n2 => by rw [← hH1, upd_ne n2, upd_ne n1]
    have atP : H1 P = some (.tbl (ps ++ #[rawInt pos.line, rawInt pos.col, .ref c'])) := by rw [← hH1, upd_ne nPc.symm, upd_same]
    have atC : H1 c' = some (CodeO c' (X.env.qual ++ "<lambda>")) := by rw [← hH1, upd_same]
    have ex : ExtN H H1 := fun b o e n => by
      have n2 : b ≠ c' := fun z => by rw [z, nC] at e; cases e
      have n1 : b ≠ P := fun z => by rw [z, hP] at e; exact n ps (Option.some.inj e).symm
      rw [at1 b n1 n2]; exact e
    refine h h'.objs.size c' _ ctv H1 _ I1 ⟨ex, fun b qs e => ?_, fun b n => ?_⟩ (fun p hp => ?_) (Heap.get?_push_size _ rfl) ?_ (far _ hsz) atC
    · by_cases n1 : b = P
      · exact ⟨ps, n1 ▸ hP⟩
      · by_cases n2 : b = c'
        · rw [n2, atC] at e
          exact absurd (Option.some.inj e) (codeO_ne qs)
        · rw [at1 b n1 n2] at e; exact ⟨qs, e⟩
    · by_cases n1 : b = P
      · rw [n1, atP]; simp
      · by_cases n2 : b = c'
        · rw [n2, atC]; simp
        · rw [at1 b n1 n2]; exact n
    · by_cases hb : p.1 = P
      · rw [hu p hp hb, hb]
        refine ⟨_, atP, by simpa using PySem.TriplesOk_snoc _ _ _ _ ht, fun p' cv hcv => ?_⟩
        have hcv : codeAmong p' (ps.toList ++ [rawInt pos.line, rawInt pos.col, .ref c']) = some cv := by simpa using hcv
        rcases among_app _ ht hcv with z | rfl
        · obtain ⟨c0, e1, e2⟩ := ha p' cv z
          exact ⟨c0, e1, ex _ _ e2 codeO_ne⟩
        · exact ⟨c', rfl, atC⟩
      · obtain ⟨qs, a1, a2, a3⟩ := hT p hp
        refine ⟨qs, by rw [at1 _ hb (fun z => by rw [z, nC] at a1; cases a1)]; exact a1, a2, fun p' cv hcv => ?_⟩
        obtain ⟨c0, e1, e2⟩ := a3 p' cv hcv
        exact ⟨c0, e1, ex _ _ e2 codeO_ne⟩
    · have n1 : h'.objs.size ≠ c' := by omega
      have n2 : h'.objs.size ≠ P := fun z => by
        have h1 := Nat.lt_of_lt_of_le (Heap.lt_size hP') hsz
        rw [z] at h1
        exact Nat.lt_irrefl _ h1
      rw [at1 _ n2 n1]
      exact I.hok.fresh hsz
end
section
variable {K : Fg} {R : Rg} {σ : L2.St} {δ : Envr} {Hs H H1 : Hp}
/-- a state behind the making of a lambda -/
theorem Wd.lam (w : Wd K R σ δ Hs H) (l : Lm H H1) (t : Tabs (tbl K) H1) : Wd K R σ δ Hs H1 where
  bs := w.bs
  sub := fun b o e => l.ext b o (w.sub b o e) (fun ps z => w.ns b ps (z ▸ e))
  fr := fun b o e n => (w.fr b o e n).trans fun o1 e1 => by
    by_cases q : ∃ ps, o1 = .tbl ps
    · obtain ⟨ps, rfl⟩ := q
      obtain ⟨p, hp, rfl⟩ := w.tb.only b ps e1
      obtain ⟨qs, h1, _⟩ := t p hp
      exact .inr ⟨⟨ps, rfl⟩, qs, h1⟩
    · exact .inl (l.ext b o1 e1 fun ps z => q ⟨ps, z⟩)
  tb := ⟨t, fun b ps e => by
    obtain ⟨qs, e2⟩ := l.tab b ps e
    exact w.tb.only b qs e2⟩
  ns := w.ns
  dom := fun b e => l.dom b (w.dom b e)
  nf := w.nf
  len := w.len
  sh := w.sh
  ow := fun i ds e => by
    obtain ⟨a, vs, h1, h2, h3, h4⟩ := w.ow i ds e
    exact ⟨a, vs, h1, h2, l.ext a _ h3 (fun ps z => by cases z), h4⟩
  owA := w.owA
  dj := w.dj
  kp := w.kp
end
end Rf
set_option linter.all false
set_option maxRecDepth 100000
set_option maxHeartbeats 2000000
set_option Elab.async false
/-! Rf: isinstance of a caught error that has its own dict. -/
namespace PySem.W
open PySem PySem.Spec PySem.Calls PyProof.Rows
section
variable {prog : Program} {w : World} {A : Around} {E : Value → Shared → Prop} {s : Shared} {K : Frag} {x D : Addr} {ox od : Obj}
theorem rf_classD {Q : Option Value → Shared → Prop} (hga : findIn K (.ref D) "__getattribute__" = some (some (.builtin "BaseException.__getattribute__"))) (hgt : findIn K (.ref D) "__getattr__" = some none) (hsub : subIn K (.ref D) (.type "BaseException") = some true)
    (hdct : hasDictIn K D = true) (ha : findIn K (.ref D) "__class__" = some (some (.builtin "object.__class__")))
    (hn : specialIn K (.builtin "object.__class__") "__get__" = some (some (.builtin "getset_descriptor.__get__"))) (htk : takesIn K (.builtin "object.__class__") = some true) (hm : mroIn K D (.type "object") = some true)
    (X : K.In s.heap) (I : InstAt s.heap x ox D (some od)) (h : Q (some (.ref D)) { s with toks := s.toks + 1 }) : wpAny (model prog w) A (getAttr? (.ref x) "__class__") Q E s := by
  have hf : findObj K D (some od) "__class__" = some (.bind (.builtin "getset_descriptor.__get__") (.builtin "object.__class__")) := findObj_data (by obtain ⟨cd, hc, _⟩ := any_some hdct; rw [hc]; rfl) ha hn htk
  obtain ⟨hp, g, d, t, os⟩ := s
  have L0 := I.type (M := model prog w)
  have L1 := looks_findIn (M := model prog w) X hga
  have L2 := looks_findIn (M := model prog w) X hgt
  have L3 := looks_find (M := model prog w) X I hf
  have sub : Looks (model prog w) hp (isInstance (.ref x) (.type "BaseException")) true := L0.andThen (looks_subIn X hsub)
  have hx0 : (false && onTheHeap (Value.builtin "BaseException.__getattribute__")) = false := rfl
  have hx2 : (Value.builtin "BaseException.__getattribute__" == Value.builtin "object.__getattribute__") = false := by decide +kernel
  have hx1 : (onTheHeap (Value.ref D) && Value.builtin "BaseException.__getattribute__" == Value.builtin "object.__getattribute__") = false := by rw [hx2]; rfl
  unfold getAttr? getAttrBy? getAttrBy
  refine wpAny_bind (wpAny_mkText (wpAny_bind (wpAny_attempt (wpAny_holding (wpAny_bind (L0.at (wpAny_bind (L1.at ?_))))))))
  show wpAny _ _ (if (onTheHeap (Value.ref D) && Value.builtin "BaseException.__getattribute__" == Value.builtin "object.__getattribute__") = true then _ else _) _ _ _
  rw [hx1, if_neg Bool.false_ne_true]
  unfold getAttrByItsOwn hookBefore
  refine wpAny_bind ?_
  rw [if_pos (show onTheHeap (Value.ref D) = true from rfl)]
  refine L2.at ?_
  refine wpAny_bind (wpAny_attempt (wpAny_holding ?_))
  unfold callGetattribute
  rw [hx0, if_neg Bool.false_ne_true]
  unfold boundAndCalled
  rw [PySem.F.excAttr_ValueError.ga.bind (.ref x)]
  refine wpAny_bind (wpAny_pure ?_)
  show wpAny _ _ (call (.builtin "BaseException.__getattribute__") [.ref x, .str "__class__" t]) _ _ _
  refine wpAny_call (codeAny_call_builtin PySem.F.excAttr_ValueError.ga.plain PySem.F.entry_bexc_ga ?_)
  refine @check_slot (model prog w) _ _ ⟨hp, g, d, t + 1, os⟩ "BaseException.__getattribute__" "BaseException" "__getattribute__" (.ref x) [.str "__class__" t] [] _ (by decide +kernel) (by decide +kernel) sub (PySem.F.args_bexc_ga (.ref x) (.str "__class__" t)) ?_
  unfold Builtin.«object.__getattribute__»
  refine wpAny_bind (wpAny_of_eq (a := ((Value.ref x : Value), [Value.str "__class__" t])) (by first | rfl | (simp only [slotArgs]; rfl)) ?_)
  refine wpAny_bind (wpAny_pure (wpAny_bind (L0.at (wpAny_bind (L3.at ?_)))))
  show wpAny _ _ (holding [Value.builtin "object.__class__"] (call (.builtin "getset_descriptor.__get__") [.builtin "object.__class__", .ref x, .ref D]) >>= ret) _ _ _
  refine wpAny_bind (wpAny_holding (wpAny_call (class_get (s := ⟨hp, g, d, t + 1, os⟩) (ox := ox) (od := some od) X I hm ?_)))
  refine wpAny_pure ?_
  show wpAny _ _ (handedOut (.ref D)) _ _ _
  rw [handedOut_of (v := .ref D) rfl]
  first
    | exact wpAny_pure (wpAny_pure h)
    | exact wpAny_pure h
    | exact wpAny_pure (wpAny_bind (wpAny_pure (wpAny_pure h)))
theorem rf_kitD (hga : findIn K (.ref D) "__getattribute__" = some (some (.builtin "BaseException.__getattribute__"))) (hgt : findIn K (.ref D) "__getattr__" = some none) (hsub : subIn K (.ref D) (.type "BaseException") = some true) (hdct : hasDictIn K D = true) (ha : findIn K (.ref D) "__class__" = some (some (.builtin "object.__class__")))
    (hn : specialIn K (.builtin "object.__class__") "__get__" = some (some (.builtin "getset_descriptor.__get__"))) (htk : takesIn K (.builtin "object.__class__") = some true) (hm : mroIn K D (.type "object") = some true) :
    KitX K (.ref x) (.ref D) (fun h => InstAt h x ox D (some od)) where
  ty := fun _ _ _ I => I.type
  it := fun _ _ X _ => by
    obtain ⟨cdD, hcD, _⟩ := any_some hdct
    unfold clsIn at hcD
    split at hcD
    · rename_i c' d' cd' sl' ho
      intro A' Q' E' s' k q
      unfold isType loadHead
      exact wpAny_bind (wpAny_loadPart (k _ _ (X _ _ ho)) (wpAny_pure q))
    · cases hcD
  ne := (handS_kitx_exc (x := x) (ox := ox) hga hgt hsub hdct ha hn htk hm).ne
  ca := fun X I k => rf_classD hga hgt hsub hdct ha hn htk hm X I k
end
end PySem.W
namespace Rf
open PySem PySem.Spec PyProof.Rows L2
/-- a caught error of the class D at a, its dict at d -/
def ExV (D d a : Addr) : HO := .ext fun h => ∃ (oe : Obj) (vs : Array Value), h.get? a = some oe ∧ oe.cls = .ref D ∧ oe.dict = some d ∧ oe.data = .fields vs
theorem exV_at {P : Program} {w : World} {H : Hp} {h : Heap} {D d a : Addr} (hok : HOk P w H h) (e : H a = some (ExV D d a)) : ∃ (oe : Obj) (vs : Array Value), h.get? a = some oe ∧ oe.cls = .ref D ∧ oe.dict = some d ∧ oe.data = .fields vs := by
  have x : ObjOk P w H h a (.ext fun h => ∃ (oe : Obj) (vs : Array Value), h.get? a = some oe ∧ oe.cls = .ref D ∧ oe.dict = some d ∧ oe.data = .fields vs) := hok a _ e
  exact x.1
theorem exV_inst {X : Cx} {pins : List (Addr × Obj)} {σ : L2.St} {H : Hp} {s : Shared} {D d a : Addr} {fs : List (Str × V)} (I : Inv X pins σ H s) (e : H a = some (ExV D d a)) (ed : H d = some (.xd fs)) : ∃ (oe od : Obj), PySem.W.InstAt s.heap a oe D (some od) := by
  obtain ⟨oe, vs, h1, h2, h3, h4⟩ := exV_at I.hok e
  obtain ⟨mA, ⟨o, es, ep, e1, _⟩, _⟩ := I.hok d _ ed
  obtain ⟨oc, odt, odc, osl⟩ := oe
  dsimp only at h2 h3 h4
  subst h2 h3 h4
  exact ⟨_, o, h1, rfl, rfl, e1⟩
def rIsV (K : PySem.W.Frag) : List V → Hp → VK → Prop := fun xs H Q => ∃ (a d D : Addr) (fs : List (Str × V)) (c : V) (cv : Value) (b : Bool), xs = [.ref a, c] ∧ ExcC K D ∧ H a = some (ExV D d a) ∧ H d = some (.xd fs) ∧ (∀ u, RelV c u → u = cv) ∧ PySem.W.kitOne K (.ref D) cv = some b ∧ Q (.bl b) H
theorem call_isV {X : Cx} : CallR X (.builtin "isinstance") (rIsV X.K) := by
  intro pins s σ H xs us Q I r h
  obtain ⟨a, d, D, fs, c, cv, b, rfl, C, ea, ed, hcv, e, q⟩ := h
  cases r with
  | cons rx rr =>
    cases rr with
    | cons rt rr =>
      cases rr
      cases rx
      have ec := hcv _ rt
      subst ec
      obtain ⟨oe, od, J⟩ := exV_inst I ea ed
      exact PySem.W.kia_one (PySem.W.rf_kitD C.hg C.hk C.hs C.hd C.ha C.hn C.ht C.hm) I.kIn J e (fun z => nomatch z) fun tk => ⟨.bl b, H, I.kept (t' := tk) fun _ _ z => z, rfl, q⟩
/-- x.f, x a caught error -/
def tXv (K : PySem.W.Frag) (f : Str) (te : TE) : TE := fun σ H Q => te σ H fun x H1 => ∃ (a d D : Addr) (fs : List (Str × V)) (v : V), x = .ref a ∧ XfC K D ∧ PySem.W.findIn K (.ref D) f = some none ∧ H1 a = some (ExV D d a) ∧ H1 d = some (.xd fs) ∧ fs.lookup f = some v ∧ Q v H1
theorem pe_xv {X : Cx} {e : Expr} {te : TE} {pos : Pos} {n : Str} (he : PE X e te) (hb : attributeBase e n X.env (eval e X.env) = eval e X.env) : PE X (.Attribute e n pos) (tXv X.K n te) := by
  refine ⟨fun pins s σ H Q I h => ?_⟩
  refine attr_of hb (thn (he.run pins s σ H _ I h) fun u s1 hh => ?_)
  obtain ⟨x, H1, I1, rx, a, d, D, fs, v, rfl, T, hno, ea, ed, l, q⟩ := hh
  obtain rfl : u = Value.ref a := rx
  obtain ⟨oe, vs, h1, h2, h3, h4⟩ := exV_at I1.hok ea
  obtain ⟨mA, hns, hr⟩ := (show ObjOk X.prog X.w H1 s1.heap d (.xd fs) from I1.hok d _ ed)
  obtain ⟨od, ho, hl⟩ := lookIn_ns hns
  obtain ⟨u, hu, ru⟩ := RelO.some_of (v := v) (o := mA n) (by rw [← l]; exact hr n)
  have J : PySem.W.InstAt s1.heap a oe D (some od) := ⟨h1, h2, by unfold PySem.W.notCls; rw [h4] <;> rfl, by rw [h3]; exact ho⟩
  exact HandSPX.exc_get I1.kIn J T.ga T.gg T.exC (PySem.W.findObj_own T.hdC hno rfl (by rw [hl, hu])) (handed_of ru) ⟨v, H1, I1.tok _, ru, q⟩
end Rf
set_option linter.all false
set_option maxRecDepth 100000
set_option maxHeartbeats 2000000
set_option Elab.async false
/-! Rf: try: .. except X as e: y = e, the error kept behind the suite. -/
namespace Rf
open PySem PySem.Spec PyProof.Rows L2
/-- an object that lies in the heap is tracked from now on -/
theorem track {X : Cx} {pins : List (Addr × Obj)} {σ : L2.St} {H : Hp} {s : Shared} {a : Addr} {o : HO} (I : Inv X pins σ H s) (na : H a = none) (nL : a ≠ X.env.locals) (nc : ∀ x c, X.env.cells.lookup x = some c → c ≠ a) (np : ∀ p ∈ X.pn ++ pins, p.1 ≠ a) (n0 : X.s_0.heap.get? a = none) (ok : ObjOk X.prog X.w (upd H a o) s.heap a o) :
    Inv X pins σ (upd H a o) s where
  ok := I.ok
  os := I.os
  bare := I.bare
  base := {
    keep := I.base.keep
    slot := I.base.slot
    free := fun b u q n hx => by
      rw [upd_ne (fun z => by rw [z, n0] at q; cases q)]
      exact I.base.free b u q n hx
    there := I.base.there
    tups := fun b xs q => by
      have h := I.base.tups b xs q
      rw [upd_ne (ne_of_none h na)]; exact h
    frzs := fun b u v q => by
      have h := I.base.frzs b u v q
      rw [upd_ne (ne_of_none h na)]; exact h
    tbls := fun b ps q => by
      obtain ⟨more, h⟩ := I.base.tbls b ps q
      exact ⟨more, by rw [upd_ne (ne_of_none h na)]; exact h⟩ }
  loc := I.loc
  cell := I.cell
  free := by rw [upd_ne nL.symm]; exact I.free
  freeC := fun x c e => by rw [upd_ne (nc x c e)]; exact I.freeC x c e
  pin := fun p hp => by
    obtain ⟨h1, h2, h3⟩ := I.pin p hp
    exact ⟨h1, by rw [upd_ne (np p hp)]; exact h2, h3⟩
  hok := fun b u e => by
    by_cases q : b = a
    · subst q
      rw [upd_same] at e
      cases e
      exact ok
    · rw [upd_ne q] at e
      exact (I.hok b u e).stay (fun c v hc z => z) (fun c hc => by rw [upd_ne (ne_of_none hc na)]; exact hc) (fun c xs hc => by rw [upd_ne (ne_of_none hc na)]; exact hc)
  len := I.len
/-- what is wanted of an error in the air: caught, it lies at a; or it goes on -/
def wKp (K : PySem.W.Frag) (c : Value) (i j : Nat) (Wout : WX) (D : Ends) : WX := fun cls d σ H =>
  ∃ b, PySem.W.exmOne K cls c = some b ∧ (b = true → ∃ (C dd : Addr), cls = .ref C ∧ d = some dd ∧ ∀ a, H a = none → D.nx (((σ.set i (some (.ref a))).set j (some (.ref a))).set i none) (upd H a (ExV C dd a))) ∧ (b = false → Wout cls d σ H)
end Rf
set_option linter.all false
set_option maxRecDepth 100000
set_option maxHeartbeats 2000000
set_option Elab.async false
namespace Rf
open PySem PySem.Spec PyProof.Rows L2
section
variable {X : Cx} {x n y : Str} {c : Value} {i j : Nat} {body : List Stmt} {np pos pos' yp np2 ap : Pos} {tb : WX → TS} {Wout : WX}
theorem ps_try_kept (hs : X.stack = X.env :: X.outer) (hf : X.env.frame = some X.env.locals) (hex : X.ex = []) (hN : X.N.Nodup) (hi : X.N[i]? = some n) (hln : X.env.kindOf n = some .local) (hj : X.N[j]? = some y) (hly : X.env.kindOf y = some .local) (hc : Names X x c) (tk : Takes X Wout)
    (hdn : (n == ("__debug__" : Str)) = false) (hdc : (n == ("__classdict__" : Str)) = false)
    (hb : ∀ (W : WX) (pn : List (Addr × Obj)) (xe : Value → Shared → Prop), Takes (X.tr pn xe) W → PassesOwn (model X.prog X.w) X.A X.env xe → PSs (X.tr pn xe) body (tb W)) :
    PS X (.Try body [.ExceptHandler (some (.Name x np)) (some n) [.Assign [.Name y yp] (.Name n np2) ap] pos'] [] [] pos) (fun D σ H => tb (wKp X.K c i j Wout D) D σ H) := by
  refine ⟨fun pins s σ H D I h => ?_⟩
  have ok := I.ok
  have hfr : X.A.frames = some (X.env :: X.outer) := by rw [ok.frames, hs]
  refine wpAny_Try_except ?_
  refine wpAny_mono ((hb (wKp X.K c i j Wout D) (X.pn ++ pins) (fun e s₁ => wpAny (model X.prog X.w) X.A (noteFrame e X.env) (fun _ s₂ => wpAny (model X.prog X.w) X.A (setFlight e none) (fun _ s₃ =>
    wpAny (model X.prog X.w) X.A (handleBy e X.env [.ExceptHandler (some (.Name x np)) (some n) [.Assign [.Name y yp] (.Name n np2) ap] pos']) (SP X pins D) X.xe s₃) X.xe s₂) X.xe s₁) (fun u s' xx => ?_) PassesOwn.looking).run [] s σ H D (I.toTry _) h) (fun f s1 hsp => ?_) (fun e s1 he => he)
  · obtain ⟨a, B, sI, pins', σ', H', cls, d, rfl, J', nb, up, sky, na, os, ag, b, hb1, hyes, hno⟩ := xx
    have J : Inv X pins σ' H' sI := J'.ofTry ok
    have sky' : Sky B (X.env :: X.outer) a (Zc cls d) X.env.locals s'.heap := by rw [← hs]; exact sky
    have hBa : B.get? a = none := by
      rcases sky' with z | z | z
      · exact z.2.1
      · exact z.2.1
      · exact z.2.1
    refine Sky.land Zc.steady hfr hf sky' fun h3 fl3 up3 => ?_
    have J3 : Inv X pins σ' H' { s' with heap := h3 } := J.landed nb fl3.1 (up.trans up3) os ag
    obtain ⟨oe3, vs3, he3, hz3, hd3⟩ := fl3.there
    have notFr : ∀ {h : Heap} {o : Obj} {vs : Array Value}, h.FunFrames B (X.env :: X.outer) → h.get? a = some o → o.data = .fields vs → a ∉ frs (X.env :: X.outer) := fun {h o vs} ff e dd hm => by
      obtain ⟨_, o', e', hnf⟩ := ff.mem hm
      rw [e] at e'; cases e'
      exact hnf _ dd
    have nfr := notFr fl3.2.2.1 he3 hd3
    have nL : a ≠ X.env.locals := fun z => nfr (List.mem_filterMap.mpr ⟨X.env, List.mem_cons_self, by rw [hf, z]⟩)
    have nF : a ∉ X.fs := fun hm => by
      obtain ⟨e, he, q⟩ := List.mem_filterMap.mp hm
      exact nfr (List.mem_filterMap.mpr ⟨e, List.mem_cons_of_mem _ he, q⟩)
    have nI : sI.heap.get? a = none := by
      cases q : sI.heap.get? a with
      | none => rfl
      | some o =>
        have := nb a o q (by rw [hs]; exact nfr)
        rw [hBa] at this; cases this
    have n0 : X.s_0.heap.get? a = none := by
      cases q : X.s_0.heap.get? a with
      | none => rfl
      | some o =>
        obtain ⟨o', e'⟩ := J.base.there a o q (by rw [hex]; simp)
        rw [nI] at e'; cases e'
    have nP : ∀ p ∈ X.pn ++ pins, p.1 ≠ a := fun p hp z => by
      have := (J.pin p hp).1
      rw [z, nI] at this; cases this
    have nC : ∀ z cl, X.env.cells.lookup z = some cl → cl ≠ a := fun z cl e q => by
      obtain ⟨v, o, ho, _⟩ := J.cell z cl e
      rw [q, nI] at ho; cases ho
    have S3 := J3.suite he3 hd3 na nL nF
    refine wpAny_handleBy_cons (codeAny_handlers_test ?_) (by intro q; cases q)
    have LT : PySem.W.Looks (model X.prog X.w) h3 (typeOf (.ref a)) cls := fun A Q E s k q => wpAny_typeOf_ref (k _ _ he3) (by rw [hz3.1]; exact q)
    have LM := PySem.W.exm_one (M := model X.prog X.w) (J3.kIn) LT hb1
    have test : ∀ {Q : Value → Shared → Prop} {E : Value → Shared → Prop}, Q c { s' with heap := h3 } → wpAny (model X.prog X.w) (X.A.mark (some (.ref a))) (eval (.Name x np) X.env) Q E { s' with heap := h3 } := fun {Q E} q => by
      obtain ⟨hg, hdbg, hm | ⟨hm, hv, hnn⟩⟩ := hc
      · exact ld_glob (X := X.suite a ((a, oe3) :: (X.pn ++ pins))) S3 hg hm q hdbg
      · exact ld_blt (X := X.suite a ((a, oe3) :: (X.pn ++ pins))) S3 hg hm hv q hnn hdbg
    refine test (LM.here ?_)
    cases b with
    | true =>
      obtain ⟨C, dd, rfl, rfl, hy⟩ := hyes rfl
      refine codeAny_handlers_suite_as ?_
      refine HandSPX.lands_againZ fl3 fun h4 fl4 up4 => ?_
      have J4 : Inv X pins σ' H' { s' with heap := h4 } := J.landed nb fl4.1 ((up.trans up3).trans up4) os ag
      obtain ⟨oe4, vs4, he4, hz4, hd4⟩ := fl4.there
      have S4 := J4.suite he4 hd4 na nL nF
      refine store_ok (X := X.suite a ((a, oe4) :: (X.pn ++ pins))) (v := .ref a) S4 hN hi (.inl hln) rfl (fun s5 S5 => ?_) (.inr hln)
      have asg : PSs (X.suite a ((a, oe4) :: (X.pn ++ pins))) [.Assign [.Name y yp] (.Name n np2) ap] (fun D σ H => σ[i]? = some (some (.ref a)) ∧ D.nx (σ.set j (some (.ref a))) H) := by
        have vN : Vis X.env.scope n := .inl hln
        have h1 := ps_asg (X := X.suite a ((a, oe4) :: (X.pn ++ pins))) (pos := ap) (pe_var (X := X.suite a ((a, oe4) :: (X.pn ++ pins))) (pos := np2) (i := i) hi vN hdn hdc) (pg_name (X := X.suite a ((a, oe4) :: (X.pn ++ pins))) (pos := yp) hN hj (.inl hly) (.inr hly))
        refine (pss_one h1).mono fun D σ H hh => ?_
        exact ⟨.ref a, hh.1, hh.2⟩
      have hil : i < σ'.length := by rw [J.len]; exact (List.getElem?_eq_some_iff.mp hi).1
      refine wpAny_mono (asg.run [] s5 _ H' { nx := fun σ6 H6 => σ6 = ((σ'.set i (some (.ref a))).set j (some (.ref a))) ∧ H6 = H', rt := fun _ _ => False } S5 ⟨List.getElem?_set_self hil, rfl, rfl⟩) (fun f s6 hsp => ?_) (fun _ _ z => False.elim z)
      cases f with
      | next =>
        obtain ⟨σ6, H6, S6, rfl, rfl⟩ := hsp
        obtain ⟨hp6, _⟩ := S6.pin (a, oe4) (List.mem_append_left _ List.mem_cons_self)
        have T6 := track (o := ExV C dd a) (S6.unsuite ok) na nL nC nP n0 ⟨⟨oe4, vs4, hp6, hz4.1, hz4.2, hd4⟩, ⟨_, hp6⟩, fun h1 h2 ⟨o, v, e1, e2⟩ k => ⟨o, v, k _ e1, e2⟩⟩
        exact gone_ok T6 hN hi hln fun s7 J7 => ⟨_, _, J7, hy a na⟩
      | brk => exact hsp.choose_spec.choose_spec.2.elim
      | cont => exact hsp.choose_spec.choose_spec.2.elim
      | ret u =>
        obtain ⟨v6, σ6, H6, S6, r6, q6⟩ := hsp
        exact q6.elim
    | false =>
      show wpAny _ X.A (handleBy (.ref a) X.env []) _ _ _
      refine wpAny_handleBy_nil ?_
      obtain ⟨k1, k2, k3, oe, vs, T, oT, ts', he, hz, hd, h1, hr⟩ := id fl3
      unfold PySem.passOn
      refine wpAny_bind (wpAny_field he hd h1 ?_)
      rw [if_neg (show ¬ ((Value.ref T == Value.none) = true) from by simp)]
      have fin : wpAny (model X.prog X.w) X.A (setFlight (.ref a) X.env.frame) (fun _ s4 => wpAny (model X.prog X.w) X.A (throw (.ref a) : Sem Flow) (SP X pins D) X.xe s4) X.xe { s' with heap := h3 } := by
        rw [hf]
        refine HandSPX.setFlight_upZ fl3 fun h4 hh4 up4 => wpAny_throw (tk _ _ ?_)
        exact ⟨a, B, sI, pins, σ', H', cls, d, rfl, J, nb, (up.trans up3).trans up4, .inr (.inr (by rw [hs]; exact hh4)), na, os, ag, hno rfl⟩
      first
        | exact wpAny_bind (wpAny_pure (wpAny_bind fin))
        | exact wpAny_bind fin
  · cases f with
    | next =>
      obtain ⟨σ', H', J', q⟩ := hsp
      exact wpAny_execs_nil ⟨σ', H', J'.ofTry ok, q⟩
    | brk =>
      obtain ⟨σ', H', J', q⟩ := hsp
      exact ⟨σ', H', J'.ofTry ok, q⟩
    | cont =>
      obtain ⟨σ', H', J', q⟩ := hsp
      exact ⟨σ', H', J'.ofTry ok, q⟩
    | ret u =>
      obtain ⟨v, σ', H', J', r, q⟩ := hsp
      exact ⟨v, σ', H', J'.ofTry ok, r, q⟩
end
end Rf
set_option linter.all false
set_option maxRecDepth 100000
set_option maxHeartbeats 2000000
set_option Elab.async false
/-! Rf: lists let go, a growing heap without owned slots, what a lambda's call gives from any frame below. -/
namespace Rf
open PySem PySem.Spec PyProof.Rows L2 LamX
/-! ### data without fresh lists -/
theorem Lb.age_age (f : Lb) : f.age.age = f.age := by cases f <;> rfl
mutual
theorem D.age_age : ∀ d : D, d.age.age = d.age
  | .non => rfl
  | .bl _ => rfl
  | .int _ => rfl
  | .str _ => rfl
  | .lst f xs => by simp only [D.age]; rw [Lb.age_age, D.ages_ages xs]
  | .tup xs => by simp only [D.age]; rw [D.ages_ages xs]
  | .dct => rfl
  | .rng _ _ => rfl
theorem D.ages_ages : ∀ ds : List D, D.ages (D.ages ds) = D.ages ds
  | [] => rfl
  | x :: xs => by simp only [D.ages]; rw [D.age_age x, D.ages_ages xs]
end
def NF : Addr → Prop := fun _ => False
section
variable {K : Fg} {N N' : Addr → Prop} {Hs Hs' : Hp}
theorem Dq.nf {v : V} {d : D} (h : Dq K N Hs v d) : Dq K NF Hs v d.age := h.aged
theorem Dq.scal {v : V} {d : D} (s : d.scal = true) (h : Dq K N Hs v d) : Dq K N' Hs' v d := by
  cases h <;> first | exact .non | exact .bl _ | exact .int _ | exact .str _ | (cases s; done)
theorem scal_eq {v v' : V} {d : D} (s : d.scal = true) (h : Dq K N Hs v d) (h' : Dq K N' Hs' v' d) : v = v' := by
  cases h <;> first | (cases h'; rfl; done) | (cases s; done)
theorem scals_eq : ∀ {ds : List D} {vs vs' : List V}, ds.all D.scal = true → DqAll K N Hs vs ds → DqAll K N' Hs' vs' ds → vs = vs'
  | [], _, _, _, h, h' => by cases h; cases h'; rfl
  | d :: ds, _, _, s, h, h' => by
    rw [List.all_cons] at s
    obtain ⟨s1, s2⟩ := Bool.and_eq_true_iff.mp s
    cases h with
    | cons a1 a2 =>
      cases h' with
      | cons b1 b2 => rw [scal_eq s1 a1 b1, scals_eq s2 a2 b2]
theorem DqAll.scals : ∀ {ds : List D} {vs : List V}, ds.all D.scal = true → DqAll K N Hs vs ds → DqAll K N' Hs' vs ds
  | [], _, _, h => by cases h; exact .nil
  | d :: ds, _, s, h => by
    rw [List.all_cons] at s
    obtain ⟨s1, s2⟩ := Bool.and_eq_true_iff.mp s
    cases h with
    | cons a1 a2 => exact .cons (a1.scal s1) (DqAll.scals s2 a2)
end
/-- shared part and heap, fit to be a region's base -/
structure Gd (K : Fg) (Hs H : Hp) : Prop where
  sub : Sub Hs H
  tb : Tb K H
  ns : ∀ b ps, Hs b ≠ some (.tbl ps)
/-- the heap grows, what lies there stays -/
structure Frm (K : Fg) (Hs H Hs' H' : Hp) : Prop where
  bs : Sub Hs Hs'
  gd : Gd K Hs' H'
  fr : ∀ b o, H b = some o → Kp o H' b
  nf : ∀ b, Hs' b ≠ none → Hs b ≠ none ∨ H b = none
section
variable {K : Fg} {R : Rg} {σ : L2.St} {δ : Envr} {Hs H Hs' H' Hs2 H2 : Hp}
theorem Wd.gd (w : Wd K R σ δ Hs H) : Gd K Hs H := ⟨w.sub, w.tb, w.ns⟩
theorem Gd.frm (g : Gd K Hs H) : Frm K Hs H Hs H := ⟨.refl _, g, fun b o e => .inl e, fun b h => .inl h⟩
theorem Frm.trans (a : Frm K Hs H Hs' H') (b : Frm K Hs' H' Hs2 H2) : Frm K Hs H Hs2 H2 := by
  refine ⟨a.bs.trans b.bs, b.gd, fun c o e => (a.fr c o e).trans fun o1 e1 => b.fr c o1 e1, fun c h => ?_⟩
  rcases b.nf c h with q | q
  · exact a.nf c q
  · refine .inr ?_
    cases z : H c with
    | none => rfl
    | some o => exact absurd q (a.fr c o z).ne
theorem Frm.wd (f : Frm K Hs H Hs' H') (w : Wd K R σ δ Hs H) : Wd K R σ δ Hs' H' where
  bs := w.bs.trans f.bs
  sub := f.gd.sub
  fr := fun b o h n => (w.fr b o h n).trans fun o1 e1 => f.fr b o1 e1
  tb := f.gd.tb
  ns := f.gd.ns
  dom := fun b h n => by
    have h1 := w.dom b h
    cases z : H b with
    | none => exact h1 z
    | some o => exact (f.fr b o z).ne n
  nf := fun b h => by
    rcases f.nf b h with q | q
    · exact w.nf b q
    · exact .inr (w.newN q)
  len := w.len
  sh := fun i d h => let ⟨v, h1, h2⟩ := w.sh i d h; ⟨v, h1, h2.mono f.bs⟩
  ow := fun i ds h => by
    obtain ⟨a, vs, h1, h2, h3, h4⟩ := w.ow i ds h
    refine ⟨a, vs, h1, Classical.byContradiction fun n => ?_, (f.fr a _ h3).lst, h4.mono f.bs⟩
    rcases f.nf a n with q | q
    · exact q h2
    · rw [h3] at q; cases q
  owA := w.owA
  dj := w.dj
  kp := w.kp
theorem Frm.go (f : Frm K Hs H Hs' H') : Go σ δ Hs H δ Hs' H' := ⟨f.bs, fun b o h _ => f.fr b o h, fun a h n => by
  rcases f.nf a n with q | q
  · exact absurd h q
  · exact .inl q, fun _ h => h⟩
theorem Gd.newO {p : Addr} {o : HO} (g : Gd K Hs H) (h : H p = none) (ho : ∀ ps, o ≠ .tbl ps) : Frm K Hs H Hs (upd H p o) := by
  have e := Ext.newO g.sub h ho
  exact ⟨.refl _, ⟨e.sub, g.tb.kp e.hh e.nt, g.ns⟩, fun b o q => .inl (e.hh b o q), fun b h => .inl h⟩
/-- a region in which nothing is owned -/
def calmR (σ : L2.St) (β : Envr) (nas : List Nat) (Hs H : Hp) : Rg := { B := H, Bs := Hs, A := NF, σb := σ, β := β, nas := nas }
theorem Gd.wd {β : Envr} {nas : List Nat} (g : Gd K Hs H) (hl : σ.length = δ.length) (no : ∀ (i : Nat) (ds : List D), δ[i]? ≠ some (.ow ds)) (sh : ∀ (i : Nat) (d : D), δ[i]? = some (.sh d) → ∃ v, σ[i]? = some (some v) ∧ Dq K NF Hs v d) : Wd K (calmR σ β nas Hs H) σ δ Hs H where
  bs := .refl _
  sub := g.sub
  fr := fun b o h _ => .inl h
  tb := g.tb
  ns := g.ns
  dom := fun b h => h
  nf := fun b h => .inl h
  len := hl
  sh := fun i d e => by
    obtain ⟨v, h1, h2⟩ := sh i d e
    exact ⟨v, h1, h2.base fun b z => z.elim⟩
  ow := fun i ds e => absurd e (no i ds)
  owA := fun a ⟨i, ds, e, _⟩ => absurd e (no i ds)
  dj := fun i j ds es a e => absurd e (no i ds)
  kp := fun _ _ => rfl
theorem Wd.frm {σ' : L2.St} {β : Envr} {nas : List Nat} (w : Wd K (calmR σ β nas Hs H) σ' δ Hs' H') : Frm K Hs H Hs' H' :=
  ⟨w.bs, w.gd, fun b o e => w.fr b o e fun z => z.elim, fun b h => by
    rcases w.nf b h with q | q
    · exact .inl q
    · rcases q with q | q
      · exact q.elim
      · exact .inr q⟩
/-- the making of a lambda, as a step -/
theorem Lm.go (w : Wd K R σ δ Hs H) (l : Lm H H') (t : Tabs (tbl K) H') : Go σ δ Hs H δ Hs H' := ⟨.refl _, fun b o e n => by
  by_cases q : ∃ ps, o = .tbl ps
  · obtain ⟨ps, rfl⟩ := q
    obtain ⟨p, hp, rfl⟩ := w.tb.only b ps e
    obtain ⟨qs, h1, _⟩ := t p hp
    exact .inr ⟨⟨ps, rfl⟩, qs, h1⟩
  · exact .inl (l.ext b o e fun ps z => q ⟨ps, z⟩), fun a h n => absurd h n, fun _ h => h⟩
end
/-! ### own lists shared for a while -/
section
variable {K : Fg} {R : Rg} {σ : L2.St} {δ : Envr} {Hs H Hs' H' : Hp}
theorem tmp_no {a : Addr} : ¬ Own σ (δ.map tmpS) a := fun ⟨i, ds, e, _⟩ => by
  rw [List.getElem?_map] at e
  obtain ⟨s, _, h2⟩ := Option.map_eq_some_iff.mp e
  cases s <;> cases h2
theorem lam_no {a : Addr} : ¬ Own σ (δ.map lamS) a := fun ⟨i, ds, e, _⟩ => by
  rw [List.getElem?_map] at e
  obtain ⟨s, _, h2⟩ := Option.map_eq_some_iff.mp e
  cases s <;> cases h2
open Classical in
/-- all slots' own lists are shared -/
theorem Wd.frz (w : Wd K R σ δ Hs H) : ∃ Hs1, Sub Hs Hs1 ∧ Gd K Hs1 H ∧ (∀ (i : Nat) (ds : List D), δ[i]? = some (.ow ds) → ∃ a vs, σ[i]? = some (some (.ref a)) ∧ Hs1 a = some (.lst vs) ∧ R.N a ∧ DqAll K R.N Hs1 vs ds) ∧ (∀ b, Hs1 b ≠ none → R.Bs b ≠ none ∨ R.N b) ∧ ∀ a, Hs a = none → Hs1 a ≠ none → Own σ δ a := by
  have at_ : ∀ {b : Addr}, Own σ δ b → ∃ vs, H b = some (.lst vs) := fun {b} ⟨i, ds, e1, e2⟩ => by
    obtain ⟨a, vs, h1, h2, h3, h4⟩ := w.ow i ds e1
    rw [e2] at h1; cases h1
    exact ⟨vs, h3⟩
  refine ⟨fun b => if Own σ δ b then H b else Hs b, fun b o e => ?_, ⟨fun b o e => ?_, w.tb, fun b ps e => ?_⟩, fun i ds e => ?_, fun b h => ?_, fun a h n => ?_⟩
  · have : ¬ Own σ δ b := fun z => by rw [w.own_none z] at e; cases e
    simp only [this, if_false]; exact e
  · by_cases c : Own σ δ b
    · simp only [c, if_true] at e; exact e
    · simp only [c, if_false] at e; exact w.sub b o e
  · by_cases c : Own σ δ b
    · simp only [c, if_true] at e
      obtain ⟨vs, q⟩ := at_ c
      rw [q] at e; cases e
    · simp only [c, if_false] at e; exact w.ns b ps e
  · obtain ⟨a, vs, h1, h2, h3, h4⟩ := w.ow i ds e
    have c : Own σ δ a := ⟨i, ds, e, h1⟩
    refine ⟨a, vs, h1, by simp only [c, if_true]; exact h3, w.owA a c, h4.mono fun b o q => ?_⟩
    have : ¬ Own σ δ b := fun z => by rw [w.own_none z] at q; cases q
    simp only [this, if_false]; exact q
  · by_cases c : Own σ δ b
    · exact .inr (w.owA b c)
    · simp only [c, if_false] at h; exact w.nf b h
  · by_cases c : Own σ δ a
    · exact c
    · simp only [c, if_false] at n; exact absurd h n
theorem Wd.tmp (w : Wd K R σ δ Hs H) : ∃ Hs1, Sub Hs Hs1 ∧ Wd K R σ (δ.map tmpS) Hs1 H := by
  obtain ⟨Hs1, s1, g1, ow1, nf1, _⟩ := w.frz
  refine ⟨Hs1, s1, {
    bs := w.bs.trans s1
    sub := g1.sub
    fr := w.fr
    tb := w.tb
    ns := g1.ns
    dom := w.dom
    nf := nf1
    len := by rw [List.length_map]; exact w.len
    sh := fun i d e => ?_
    ow := fun i ds e => ?_
    owA := fun a h => (tmp_no h).elim
    dj := fun i j ds es a e1 _ h1 _ => (tmp_no ⟨i, ds, e1, h1⟩).elim
    kp := w.kp }⟩
  · rw [List.getElem?_map] at e
    obtain ⟨s, h1, h2⟩ := Option.map_eq_some_iff.mp e
    cases s with
    | un => cases h2
    | sh d' =>
      cases h2
      obtain ⟨v, q1, q2⟩ := w.sh i _ h1
      exact ⟨v, q1, q2.mono s1⟩
    | ow ds =>
      cases h2
      obtain ⟨a, vs, q1, q2, q3, q4⟩ := ow1 i ds h1
      exact ⟨_, q1, .lst ⟨q3, q2⟩ q4⟩
  · rw [List.getElem?_map] at e
    obtain ⟨s, _, h2⟩ := Option.map_eq_some_iff.mp e
    cases s <;> cases h2
theorem back_of {Hs1 : Hp} (w : Wd K R σ δ Hs H) (s1 : Sub Hs Hs') (g : Gd K Hs' H') (fr : ∀ b o, H b = some o → Kp o H' b) : Wd K R σ δ Hs H' ∧ Go σ δ Hs H δ Hs H' := by
  have f : Frm K Hs H Hs H' := ⟨.refl _, ⟨fun b o e => g.sub b o (s1 b o e), g.tb, w.ns⟩, fr, fun b h => .inl h⟩
  exact ⟨f.wd w, f.go⟩
theorem tmp_back {δ' : Envr} {Hs1 : Hp} (w : Wd K R σ δ Hs H) (s1 : Sub Hs Hs1) (w' : Wd K R σ δ' Hs' H') (g : Go σ (δ.map tmpS) Hs1 H δ' Hs' H') : Wd K R σ δ Hs H' ∧ Go σ δ Hs H δ Hs H' :=
  back_of (Hs1 := Hs1) w (s1.trans g.hs) w'.gd fun b o e => g.fr b o e tmp_no
theorem lam_wd (w : Wd K R σ δ Hs H) : ∃ Hs1, Sub Hs Hs1 ∧ Wd K (calmR σ (δ.map lamS) [] Hs1 H) σ (δ.map lamS) Hs1 H := by
  obtain ⟨Hs1, s1, g1, ow1, _, _⟩ := w.frz
  refine ⟨Hs1, s1, g1.wd (by rw [List.length_map]; exact w.len) (fun i ds e => ?_) fun i d e => ?_⟩
  · rw [List.getElem?_map] at e
    obtain ⟨s, _, h2⟩ := Option.map_eq_some_iff.mp e
    cases s <;> cases h2
  · rw [List.getElem?_map] at e
    obtain ⟨s, h1, h2⟩ := Option.map_eq_some_iff.mp e
    cases s with
    | un => cases h2
    | sh d' =>
      cases h2
      obtain ⟨v, q1, q2⟩ := w.sh i _ h1
      exact ⟨v, q1, (q2.mono s1).nf⟩
    | ow ds =>
      cases h2
      obtain ⟨a, vs, q1, q2, q3, q4⟩ := ow1 i ds h1
      exact ⟨_, q1, .lst q2 q4.aged⟩
theorem lam_back {β : Envr} {Hs1 : Hp} {σ' : L2.St} {δ' : Envr} (w : Wd K R σ δ Hs H) (s1 : Sub Hs Hs1) (w' : Wd K (calmR σ β [] Hs1 H) σ' δ' Hs' H') : Wd K R σ δ Hs H' ∧ Go σ δ Hs H δ Hs H' :=
  back_of (Hs1 := Hs1) w (s1.trans w'.frm.bs) w'.gd w'.frm.fr
end
end Rf
set_option linter.all false
set_option maxRecDepth 100000
set_option maxHeartbeats 2000000
set_option Elab.async false
/-! Rf: a growing heap without owned slots; a lambda called from any frame below; what the def that calls it promises. -/
namespace Rf
open PySem PySem.Spec PyProof.Rows L2 LamX
/-- steps put together, the frames between told -/
theorem un_more {fr fr1 : List Addr} {H HG HZ : Hp} {h1 h2 h3 : Heap} (a : Un fr [] H HG h1 h2) (b : Un fr1 [] HG HZ h2 h3) (s1 : ∀ x ∈ fr1, x ∈ fr ∨ h1.get? x = none) (s2 : ∀ x ∈ fr, x ∈ fr1) : Un fr [] H HZ h1 h3 := by
  have nin : ∀ {x : Addr} {o : Obj}, h1.get? x = some o → x ∉ fr → x ∉ fr1 := fun e n z => by
    rcases s1 _ z with q | q
    · exact n q
    · rw [e] at q; cases q
  exact {
    keep := fun x o e n h y => b.keep x o (a.keep x o e n h y) (a.free x o e n y) (nin e h) y
    slot := fun x o e n h y => by
      obtain ⟨sl, e1⟩ := a.slot x o e n h y
      obtain ⟨sl2, e2⟩ := b.slot x _ e1 (a.free x o e n y) (s2 x h) y
      exact ⟨sl2, e2⟩
    free := fun x o e n y => by
      obtain ⟨sl, e1⟩ := a.any e n y
      exact b.free x _ e1 (a.free x o e n y) y
    there := fun x o e y => by
      obtain ⟨o1, e1⟩ := a.there x o e y
      exact b.there x o1 e1 y
    tups := fun x xs e => b.tups x xs (a.tups x xs e)
    frzs := fun x o u e => b.frzs x o u (a.frzs x o u e)
    tbls := fun x ps e => by
      obtain ⟨m1, e1⟩ := a.tbls x ps e
      obtain ⟨m2, e2⟩ := b.tbls x _ e1
      exact ⟨m1 ++ m2, by rw [e2, Array.append_assoc]⟩ }
/-- f(), called from any frame below; fs, H1, h1: where f was made; T: what the call gives -/
structure Acts (P : Program) (w : World) (K : Fg) (mg : Str → Option Value) (base : Heap) (k : Nat) (fs : List Addr) (H1 : Hp) (h1 : Heap) (f : Addr) (T : XK → Hp → VK → Prop) : Prop where
  fn : ∀ HZ h, Un fs [] H1 HZ h1 h → PySem.W.FnAt f h
  go : ∀ (Z : Around) (out : List Env) (s : Shared) (H : Hp) (Q : VK) (E : XK), NoGd Z → Room (k + 1) Z → Env0 P w K mg base Z out s H → Un fs [] H1 H h1 s.heap → T E H Q → codeAny (model P w) Z (.call (.ref f) ⟨[], []⟩) (CR (L2.CX P w) out P w H s Q E) s
section
variable {X : Cx} {pins : List (Addr × Obj)} {σ : L2.St} {H : Hp} {s : Shared}
theorem acts_lam {f c' : Addr} {pm ctv : Value} {params : Arguments} {body : Expr} {scope : Scope} {k : Nat} {tb : XK → TE}
    (I : Inv X pins σ H s) (L : LamS X.env.scope scope) (hf : s.heap.get? f = some (PySem.W.kla_obj "<lambda>" (X.env.qual ++ "<lambda>") params body scope (cloFrom X.env.cells scope.names []) pm c' ctv)) (hfn : H f = none) (hfr : f ∉ frs X.stack)
    (hbind : bindArgs (PySem.W.kla_fn "<lambda>" (X.env.qual ++ "<lambda>") params body scope (cloFrom X.env.cells scope.names []) pm (.ref c') ctv) ⟨[], []⟩ = pure [])
    (hbody : ∀ (A : Around) (outer : List Env) (s : Shared) (H : Hp) (E : XK), NoGd A → Room k (A.deeper (lamEnv X scope s.heap.objs.size f c')) → PE (lamCx X A outer s H E scope f c') body (tb E)) :
    Acts X.prog X.w X.K X.mg X.base k (frs X.stack) H s.heap f (fun E HZ Q => HZ c' = some (CodeO c' (X.env.qual ++ "<lambda>")) ∧ tb E σ HZ Q) where
  fn := fun HZ h un => ⟨_, _, _, _, un.keep f _ hf hfn hfr (fun z => nomatch (show f ∈ ([] : List Addr) from z))⟩
  go := fun Z out s1 H1 Q E hgd hr e0 un ⟨hc, ht⟩ => by
    have of1 := un.keep f _ hf hfn hfr (fun z => nomatch (show f ∈ ([] : List Addr) from z))
    obtain ⟨⟨oc, vs, t, hoc, hdc, hvc⟩, _, _⟩ := e0.hok c' _ hc
    have lim : s1.heap.NoLimit := e0.mod.nolimit.keeps fun b o e => (e0.bs b o e).1
    refine PySem.W.kla_callFunE hr.depth of1 rfl L.co L.gen rfl ⟨c', oc, vs, t, rfl, hoc, hdc, hvc⟩ ?_
    rw [hbind]
    refine wpAny_pure (wpAny_newFunctionEnv (fun y hy => (L.own y hy).2) (fun y hy => absurd hy (by simp)) (fun h₁ hns hsb => ⟨lim.fresh _ hsb, ?_⟩) L.kind)
    show codeAny _ _ (.expr body (lamEnv X scope s1.heap.objs.size f c')) _ _
    have kp : ∀ b o, s1.heap.get? b = some o → h₁.get? b = some o := fun b o e => hsb.extBut b o (Nat.ne_of_lt (Heap.lt_size e)) (Heap.get?_push_of_some _ e)
    have J : Inv (lamCx X Z out s1 H1 E scope f c') [] σ H1 { s1 with heap := h₁, toks := s1.toks + ([] : List (Str × Value)).length } := lam_start2 I L e0 hr.hd un hns kp
    refine PySem.W.kla_codeExpr (wpAny_mono ((hbody Z out s1 H1 E hgd (hr.deeper _)).run [] _ _ H1 Q J ht) (fun v s' hq => ?_) fun e s' hq => hq)
    obtain ⟨w', H', J', rv, q⟩ := hq
    exact ⟨w', H', J'.os, J'.bare, J'.base, J'.hok, rv, q⟩
/-- x() of such a value -/
theorem pe_actA {k i : Nat} {fs : List Addr} {H1 : Hp} {h1 : Heap} {f : Addr} {T : XK → Hp → VK → Prop} {a : Str} {W : WX} {p1 p2 : Pos} (A : Acts X.prog X.w X.K X.mg X.base k fs H1 h1 f T) (hr : Room (k + 1) X.A) (hgd : NoGd X.A)
    (un : ∀ (pins : List (Addr × Obj)) (σ : L2.St) (H : Hp) (s : Shared), Inv X pins σ H s → Un fs [] H1 H h1 s.heap) (tk : Takes X W)
    (hN : X.N[i]? = some a) (hv : Vis X.env.scope a) (hd : (a == ("__debug__" : Str)) = false) (hcd : (a == ("__classdict__" : Str)) = false) :
    PE X (.Call (.Name a p1) [] [] p2) (fun σ H Q => σ[i]? = some (some (.ref f)) ∧ T (WE W σ) H Q) := by
  refine ⟨fun pins s σ H Q I ⟨hs, ht⟩ => ?_⟩
  refine wpAny_Call_Name_kw (thn ((pe_var (pos := p1) (i := i) hN hv hd hcd).run pins s σ H (fun v H1 => v = .ref f ∧ H1 = H) I ⟨.ref f, hs, rfl, rfl⟩) ?_)
  rintro u s1 ⟨v, H2, I1, r1, rfl, rfl⟩
  obtain rfl : u = Value.ref f := r1
  have un1 := un _ _ _ _ I1
  refine PySem.W.callWith_F0 (A.fn _ _ un1) ?_
  refine wpAny_call (codeAny_mono (A.go X.A X.stack s1 H2 Q (WE W σ) hgd hr I1.env0 un1 ht) fun r s' hq => ?_)
  cases r with
  | error e => exact passAt tk σ pins H2 s1 e s' I1 hq
  | ok fl =>
    cases fl with
    | ret u => exact I1.after hq
    | next => exact hq.elim
    | brk => exact hq.elim
    | cont => exact hq.elim
end
/-- behind the call within `_law_refused`: t the word, v the value -/
def RfEnd (K : Fg) (cf : CF) (al : Nat) (vw vv : V) (Q : VK) (t : Str) (v : V) (H : Hp) : Prop :=
  ∃ (Hs : Hp) (dw dv d : D) (b : Bool), Gd K Hs H ∧ Dq K NF Hs vw dw.age ∧ Dq K NF Hs vv dv.age ∧ Dq K NF Hs v d.age ∧ refV cf al t d dw dv = some b ∧ ∀ Hs' H', Frm K Hs H Hs' H' → Q (.bl b) H'
/-- what `_law_refused` at fr promises -/
def RfP (P : Program) (w : World) (K : Fg) (mg : Str → Option Value) (base : Heap) (k : Nat) (C : Nat → Addr) (cf : CF) (al : Nat) (ws : List Str) (fr : Addr) : Prop :=
  ∀ (Z : Around) (out : List Env) (s : Shared) (H : Hp) (fs : List Addr) (H1 : Hp) (h1 : Heap) (f : Addr) (T : XK → Hp → VK → Prop) (vw vv : V) (uw uv : Value) (Q : VK) (E : XK),
    NoGd Z → Room (k + 3) Z → Env0 P w K mg base Z out s H → Acts P w K mg base k fs H1 h1 f T → Un fs [] H1 H h1 s.heap → (∀ x ∈ frs out, x ∈ fs ∨ h1.get? x = none) → (∀ x ∈ fs, x ∈ frs out) → RelV vw uw → RelV vv uv →
    (∀ (E' : XK) (Q' : VK), (∀ v H', RfEnd K cf al vw vv Q "let" .non H' → Q' v H') → (∀ (c : Nat) (t : Str) (a : Addr) (v : V) (H' : Hp), ws[c]? = some t → H' a = some (.xd [(("value" : Str), v)]) → RfEnd K cf al vw vv Q t v H' → E' (.ref (C c)) (some a) H') → T E' H Q') →
    codeAny (model P w) Z (.call (.ref fr) ⟨[.ref f, uw, uv], []⟩) (CR (L2.CX P w) out P w H s Q E) s
end Rf
set_option linter.all false
set_option maxRecDepth 100000
set_option maxHeartbeats 2000000
set_option Elab.async false
/-! Rf: expressions: lists let go, an append to a fresh list, {}, a refused call. -/
namespace Rf
open PySem PySem.Spec PyProof.Rows L2 LamX
section
variable {X : Cx} {R : Rg} {C : Nat → Addr} {W : WX} {cf : CF}
theorem s_dct {pos : Pos} : PE X (.Dict [] [] pos) (tE X.K R C W (ev cf .dct)) := pe_dnewK.mono fun σ H Q ⟨Hs, δ, wd, h⟩ p hp => by
  rw [ev] at h
  exact h (.ref p) _ _ (.of_or (o := .val .dct) .refl wd (.newS wd.sub hp) (show Dq X.K R.N _ _ _ from .dct upd_same))
theorem letGo_ok {m : M Rs} {δ : Envr} {g : Rs → Envr → Prop} {e : Nat → D → Envr → Prop} (h : Ok (letGo m δ) g e) : Ok (m (δ.map tmpS)) (fun r _ => ∃ d, r = .fz d ∧ d.scal = true ∧ g (.fz d) δ) e := by
  unfold letGo at h
  cases q : m (δ.map tmpS) with
  | bad n => rw [q] at h; exact h
  | exn c d δ' => rw [q] at h; exact h
  | ok r δ' =>
    rw [q] at h
    cases r with
    | fz d =>
      by_cases c : d.scal = true
      · simp only [c, if_true] at h
        exact ⟨d, rfl, c, h⟩
      · simp only [c] at h; exact h.elim
    | nw ds => exact h.elim
    | sl i => exact h.elim
theorem s_tmp {e : Expr} {x : Ex} (he : PE X e (tE X.K R C W (ev cf x))) : PE X e (tE X.K R C W (ev cf (.tmp x))) := he.mono fun σ H Q ⟨Hs, δ, wd, h⟩ => by
  rw [ev] at h
  obtain ⟨Hs1, s1, w1⟩ := wd.tmp
  refine ⟨Hs1, _, w1, (letGo_ok h).imp (fun r δ' ⟨d, e1, sc, k⟩ v Hs' H' p => ?_) fun _ _ _ x => x⟩
  subst e1
  obtain ⟨w2, g2⟩ := tmp_back wd s1 p.wd p.go
  exact k v Hs H' (.of_val g2 w2 (Dq.scal sc (show Dq _ _ _ _ _ from p.rs)))
theorem t_tmp {e : Expr} {x : Ex} (he : PT X e (tT X.K R C W (ev cf x >>= truM))) : PT X e (tT X.K R C W (ev cf (.tmp x) >>= truM)) := he.mono fun σ H Q ⟨Hs, δ, wd, h⟩ => by
  rw [ev] at h
  obtain ⟨Hs1, s1, w1⟩ := wd.tmp
  refine ⟨Hs1, _, w1, ?_⟩
  have h2 := letGo_ok h.bindI
  have key : Ok (ev cf x (δ.map tmpS)) (fun r δ' => Ok (truM r δ') (fun b δ'' => ∀ Hs' H', Wd X.K R σ δ'' Hs' H' → Go σ (δ.map tmpS) Hs1 H δ'' Hs' H' → Q b H') (Xc X.K R C W σ)) (Xc X.K R C W σ) := h2.imp (fun r δ' ⟨d, e1, sc, k⟩ => by
    subst e1
    unfold truM at k ⊢
    simp only [Rf.rd] at k ⊢
    cases q : d.truth with
    | none => rw [q] at k; exact k
    | some b =>
      rw [q] at k
      intro Hs' H' w' g'
      obtain ⟨w2, g2⟩ := tmp_back wd s1 w' g'
      exact k Hs H' w2 g2) fun _ _ _ x => x
  show Ok (M.bind (ev cf x) truM (δ.map tmpS)) _ _
  unfold M.bind
  cases q : ev cf x (δ.map tmpS) with
  | bad n => rw [q] at key; exact key
  | exn c d δ' => rw [q] at key; exact key
  | ok r δ' => rw [q] at key; exact key
/-- a list apart from all slots is changed -/
theorem Wd.mut {K : Fg} {σ : L2.St} {δ : Envr} {Hs H : Hp} (w : Wd K R σ δ Hs H) {a : Addr} {xs ys : List V} (h : H a = some (.lst xs)) (hs : Hs a = none) (hn : ¬ Own σ δ a) (hb : R.N a) : Wd K R σ δ Hs (upd H a (.lst ys)) where
  bs := w.bs
  sub := fun b o e => by
    rw [upd_ne (ne_of_none e hs)]; exact w.sub b o e
  fr := fun b o e n => by
    have q : b ≠ a := fun z => by
      subst z
      rcases hb with hb | hb
      · exact n hb
      · rw [e] at hb; cases hb
    exact (w.fr b o e n).upd q
  tb := w.tb.updL h fun ps z => by cases z
  ns := w.ns
  dom := fun b e => by
    by_cases q : b = a
    · subst q; rw [upd_same]; simp
    · rw [upd_ne q]; exact w.dom b e
  nf := w.nf
  len := w.len
  sh := w.sh
  ow := fun i ds e => by
    obtain ⟨b, vs, h1, h2, h3, h4⟩ := w.ow i ds e
    have q : b ≠ a := fun z => hn ⟨i, ds, e, z ▸ h1⟩
    exact ⟨b, vs, h1, h2, by rw [upd_ne q]; exact h3, h4⟩
  owA := w.owA
  dj := w.dj
  kp := w.kp
theorem s_apf {o e : Expr} {eo ea : Ex} {apos cpos : Pos} (hb : attributeBase o "append" X.env (eval o X.env) = eval o X.env) (hline : (apos.endLine == cpos.line) = true) (hs : NotStar e) (ho : PE X o (tE X.K R C W (ev cf eo))) (ha : PE X e (tE X.K R C W (ev cf ea))) :
    PE X (.Call (.Attribute o "append" apos) [e] [] cpos) (tE X.K R C W (ev cf (.apf eo ea))) := by
  refine (pe_bm PySem.F.plainAttrs_list PySem.F.slot_list_append PySem.F.type_list_append mt_append ho (pa_cons ha pa_nil (star_of hs)) hb (few1 hs) hline (star_of hs) rfl).mono fun σ H Q ⟨Hs, δ, wd, h⟩ => ?_
  rw [ev] at h
  refine tE_bind wd h fun r δ1 v Hs1 H1 p1 k1 => ?_
  cases r with
  | fz d => exact k1.elim
  | sl i => exact k1.elim
  | nw ds =>
    obtain ⟨a, us, rfl, h1, h2, h3, h4, h5⟩ := p1.rs
    refine ⟨.inl ⟨rfl, us, .of h2⟩, ?_⟩
    refine tE_bind p1.wd k1 fun r2 δ2 y Hs2 H2 p2 k2 => ?_
    obtain ⟨Hs3, w3, g3, o3, _⟩ := p2.opd
    obtain ⟨d, δ4, Hs4, w4, g4, hd, k4⟩ := esc_ok w3 o3 k2
    have g := g3.trans g4
    by_cases hle : ds.length < lim
    · rw [if_pos hle] at k4
      have e2 : H2 a = some (.lst us) := (g.fr a _ h2 h4).lst
      have s2 : Hs4 a = none := Classical.byContradiction fun n => by
        rcases g.nf a h1 n with q | q
        · rw [h2] at q; cases q
        · exact h4 q
      have n2 : ¬ Own σ δ4 a := fun z => h4 (g.ow a z)
      have w5 := w4.mut (ys := us ++ [y]) e2 s2 n2 h5
      refine ⟨a, us, y, rfl, rfl, e2, by rw [h3.length]; exact limT hle, ?_⟩
      have gg := p1.go.trans g
      refine k4 .non Hs4 _ (.of_val ⟨gg.hs, fun b ob e n => ?_, gg.nf, gg.ow⟩ w5 .non)
      have q : b ≠ a := fun z => by
        subst z
        rcases p1.nw ds b rfl rfl with q | q
        · rw [e] at q; cases q
        · exact n q
      exact (gg.fr b ob e n).upd q
    · rw [if_neg hle] at k4; exact k4.elim
theorem ok_caught {ws : List Str} {m : M Rs} {β : Type} {k : Str × D → M β} {δ : Envr} {g : β → Envr → Prop} {e : Nat → D → Envr → Prop} (h : Ok ((caughtM ws m >>= k) δ) g e) :
    Ok (m (δ.map lamS)) (fun _ _ => Ok (k ("let", .non) δ) g e) fun c d _ => ∃ t, ws[c]? = some t ∧ Ok (k (t, d) δ) g e := by
  have h := h.bindI
  unfold caughtM at h
  cases q : m (δ.map lamS) with
  | bad n => rw [q] at h; exact h
  | ok r δ' => rw [q] at h; exact h
  | exn cc d δ' =>
    rw [q] at h
    cases q2 : ws[cc]? with
    | none => simp only [q2] at h; exact h.elim
    | some t => simp only [q2] at h; exact ⟨t, q2, h⟩
/-- `_law_refused(lambda: .., word, value)` -/
theorem s_rfd {k : Nat} {fr c P : Addr} {x : Str} {params : Arguments} {body we ve : Expr} {scope : Scope} {p lpos pos : Pos} {call word val : Ex} {al : Nat} {ws : List Str} (RP : RfP X.prog X.w X.K X.mg X.base k C cf al ws fr) (hr : Room (k + 3) X.A) (hgd : NoGd X.A) (tk : Takes X W) (hg : Gl X x) (hm : X.mg x = some (.ref fr)) (hk : PySem.W.keepIn X.K (.ref fr) = true)
    (hdb : (x == ("__debug__" : Str)) = false) (TB : TabB X.base X.mg c P) (hcode : X.env.code = .ref c) (hmT : (P, X.env.qual ++ "<lambda>") ∈ tbl X.K) (hu : ∀ p ∈ tbl X.K, p.1 = P → p.2 = X.env.qual ++ "<lambda>") (L : LamS X.env.scope scope) (hdef : defaultsOf params X.env = ([], []))
    (hbind : ∀ (q : Str) (cl : List (Str × Addr)) (pm cv ctv : Value), bindArgs (PySem.W.kla_fn "<lambda>" q params body scope cl pm cv ctv) ⟨[], []⟩ = pure []) (hs1 : NotStar we) (hs2 : NotStar ve)
    (hw : PE X we (tE X.K R C W (ev cf word))) (hv : PE X ve (tE X.K R C W (ev cf val)))
    (hbody : ∀ (R : Rg) (A : Around) (outer : List Env) (s : Shared) (H : Hp) (E : XK) (f c' : Addr), NoGd A → Room k (A.deeper (lamEnv X scope s.heap.objs.size f c')) → PE (lamCx X A outer s H E scope f c') body (tE X.K R C (fun cls d _ H => E cls d H) (ev cf call))) :
    PE X (.Call (.Name x p) [.Lambda params body scope lpos, we, ve] [] pos) (tE X.K R C W (ev cf (.rfd call word val al ws))) := by
  refine ⟨fun pins s σ H Q I ⟨Hs, δ, wd, h⟩ => ?_⟩
  rw [ev] at h
  refine wpAny_Call_Name_kw (ld_glob I hg hm ?_ hdb)
  have hpl : (backTo pos (starEach [we, ve] X.env)).any (·.1) = false := by
    rw [star_of hs1, star_of hs2]; rfl
  refine PySem.W.callWith_K (h₀ := X.base) I.ok.mod.kin hk ?_ (by rfl) hpl
  show wpAny _ _ (spliced ((false, eval (.Lambda params body scope lpos) X.env) :: backTo pos (starEach [we, ve] X.env))) _ _ s
  refine Calls.spliced_cons (lam_make3 I TB hcode hmT hu wd.tb.tabs hdef (L.has I.ok) fun f c' pm' ctv H1 s' I1 lm T1 hf hfn hfr hco => ?_)
  have w1 := wd.lam lm T1
  have g1 : Go σ δ Hs H δ Hs H1 := lm.go wd T1
  have nL : f ≠ X.env.locals := fun z => by
    obtain ⟨_, ⟨o, es, n, e, d, _⟩, _⟩ := I1.loc
    rw [← z, hf] at e
    cases e
    cases d
  have nF : f ∉ X.fs := fun z => hfr (by
    rcases I1.ok.stk with q | ⟨q, _⟩
    · rw [q]; exact z
    · rw [q]
      obtain ⟨e, he, e2⟩ := List.mem_filterMap.mp z
      exact List.mem_filterMap.mpr ⟨e, List.mem_cons_of_mem _ he, e2⟩)
  generalize hob : PySem.W.kla_obj "<lambda>" (X.env.qual ++ "<lambda>") params body scope (cloFrom X.env.cells scope.names []) pm' c' ctv = fo at hf
  have I2 : Inv X (pins ++ [(f, fo)]) σ H1 s' := { I1 with
    pin := fun q hq => by
      rw [← List.append_assoc] at hq
      rcases List.mem_append.mp hq with z | z
      · exact I1.pin q z
      · obtain rfl := List.mem_singleton.mp z
        refine ⟨hf, hfn, nL, nF, fun v z => ?_⟩
        rw [← hob] at z
        cases z }
  have hargs := pa_cons hw (pa_cons hv pa_nil (star_of hs2)) (star_of hs1)
  refine thn (hargs.run pos (pins ++ [(f, fo)]) s' σ H1 (fun vs H3 => ∃ vw vv Hs3 δ3 dw dv, vs = [vw, vv] ∧ Wd X.K R σ δ3 Hs3 H3 ∧ Go σ δ Hs H1 δ3 Hs3 H3 ∧ Dq X.K R.N Hs3 vw dw ∧ Dq X.K R.N Hs3 vv dv ∧
      Ok ((caughtM ws (ev cf call) >>= fun z => match z with | (t, d) => ofO 54 (refV cf al t d dw dv) >>= fun b => pure (Rs.fz (.bl b))) δ3) (fun r δ' => ∀ v Hs' H', Post X.K R σ δ Hs H δ' Hs' H' v r → Q v H') (Xc X.K R C W σ)) I2 ?_) ?_
  · refine tE_bind w1 h fun rw δ1 vw Hs2 H2 p1 k1 => ?_
    obtain ⟨Hs3, w3, g3, o3, _⟩ := p1.opd
    obtain ⟨dw, δ4, Hs4, w4, g4, hdw, k4⟩ := esc_ok w3 o3 k1
    refine tE_bind w4 k4 fun rv δ5 vv Hs5 H5 p5 k5 => ?_
    obtain ⟨Hs6, w6, g6, o6, _⟩ := p5.opd
    obtain ⟨dv, δ7, Hs7, w7, g7, hdv, k7⟩ := esc_ok w6 o6 k5
    exact ⟨vw, vv, Hs7, δ7, dw, dv, rfl, w7, (((g3.trans g4).trans g6).trans g7), hdw.mono (g6.hs.trans g7.hs), hdv, k7⟩
  rintro us s3 ⟨vs, H3, I3, rv, vw, vv, Hs3, δ3, dw, dv, rfl, w3, g3, hdw, hdv, k3⟩
  obtain ⟨uw, uv, rfl, rw, ru⟩ : ∃ uw uv, us = [uw, uv] ∧ RelV vw uw ∧ RelV vv uv := by
    cases rv with
    | cons a b =>
      cases b with
      | cons c d => cases d; exact ⟨_, _, rfl, a, c⟩
  obtain ⟨hf3, hfn3, _, _, _⟩ := I3.pin (f, fo) (by simp)
  have I4 : Inv X pins σ H3 s3 := { I3 with pin := fun q hq => I3.pin q (by rw [← List.append_assoc]; exact List.mem_append_left _ hq) }
  rw [← hob] at hf3
  have hco3 : H3 c' = some (CodeO c' (X.env.qual ++ "<lambda>")) := by
    rcases g3.fr c' _ hco (fun ⟨i, ds, e1, e2⟩ => by
      obtain ⟨b, us, q1, q2, q3, _⟩ := w1.ow i ds e1
      rw [e2] at q1; cases q1
      rw [hco] at q3
      unfold CodeO at q3
      cases q3) with q | ⟨⟨ps, q⟩, _⟩
    · exact q
    · exact absurd q (codeO_ne ps)
  obtain ⟨Hsf, sf, wf⟩ := lam_wd w3
  have A := acts_lam (k := k) (tb := fun E => tE X.K (calmR σ (δ3.map lamS) [] Hsf H3) C (fun cls d _ H => E cls d H) (ev cf call)) I4 L hf3 hfn3 hfr (hbind _ _ _ _ _) fun A outer s H E hgA hrA => hbody _ A outer s H E f c' hgA hrA
  refine ⟨I4.kIn, ?_⟩
  have fin : ∀ (t : Str) (v : V) (d : D) (δ' : Envr) (Hs' H' : Hp), Wd X.K (calmR σ (δ3.map lamS) [] Hsf H3) σ δ' Hs' H' → Dq X.K (calmR σ (δ3.map lamS) [] Hsf H3).N Hs' v d →
      Ok ((ofO 54 (refV cf al t d dw dv) >>= fun b => pure (Rs.fz (.bl b)) : M Rs) δ3) (fun r δ' => ∀ v Hs' H', Post X.K R σ δ Hs H δ' Hs' H' v r → Q v H') (Xc X.K R C W σ) → RfEnd X.K cf al vw vv Q t v H' := fun t v d δ' Hs' H' w' hd kk => by
    obtain ⟨b, e1, k5⟩ := ofO_ok kk
    refine ⟨Hs', dw, dv, d, b, w'.gd, (hdw.mono (sf.trans w'.bs)).nf, (hdv.mono (sf.trans w'.bs)).nf, hd.nf, e1, fun Hs'' H'' fm => ?_⟩
    obtain ⟨w5, g5⟩ := lam_back w3 sf (fm.wd w')
    exact k5 (.bl b) Hs3 H'' (.of_val ((g1.trans g3).trans g5) w5 (.bl b))
  refine wpAny_call (codeAny_mono (RP X.A X.stack s3 H3 (frs X.stack) H3 s3.heap f _ vw vv uw uv Q (WE W σ) hgd hr I4.env0 A Un.refl (fun x hx => .inl hx) (fun x hx => hx) rw ru fun E' Q' hQ hE => ⟨hco3, Hsf, _, wf, (ok_caught k3).imp (fun r δ' kk v Hs' H' p => ?_) fun c0 d δ' ⟨t, et, kk⟩ Hs' H' a v w' hx hd => ?_⟩) fun r s' hq => ?_)
  · exact hQ v H' (fin "let" .non .non δ' Hs' H' p.wd .non kk)
  · exact hE c0 t a v H' et hx (fin t v d δ' Hs' H' w' hd kk)
  · cases r with
    | error e => exact passAt tk σ pins H3 s3 e s' I4 hq
    | ok fl =>
      cases fl with
      | ret u => exact I4.after hq
      | next => exact hq.elim
      | brk => exact hq.elim
      | cont => exact hq.elim
end
end Rf
set_option linter.all false
set_option maxRecDepth 100000
set_option maxHeartbeats 2000000
set_option Elab.async false
/-! Rf: a wider base: all objects that are not tracked and no frames. A lambda called over it. -/
namespace Rf
open PySem PySem.Spec PyProof.Rows L2 LamX
/-- a heap without what is tracked and without frames -/
def hidU (h : Heap) (H : Hp) (fs : List Addr) : Heap := PySem.W.hideAll h (trk h H ++ fs)
theorem hidU_get {h : Heap} {H : Hp} {fs : List Addr} {b : Addr} {o : Obj} (e : h.get? b = some o) (n : H b = none) (m : b ∉ fs) : (hidU h H fs).get? b = some o := by
  refine PySem.W.hideAll_get _ e fun z => ?_
  rcases List.mem_append.mp z with z | z
  · have z2 := (List.mem_filter.mp z).2
    rw [n] at z2; cases z2
  · exact m z
theorem hidU_of {h : Heap} {H : Hp} {fs : List Addr} {b : Addr} {o : Obj} (e : (hidU h H fs).get? b = some o) : h.get? b = some o ∧ H b = none ∧ b ∉ fs := by
  have e1 : h.get? b = some o := PySem.W.of_hideAll (trk h H ++ fs) e
  have no : b ∉ trk h H ++ fs := fun z => by
    have := PySem.W.hideAll_none (h := h) (trk h H ++ fs) z
    unfold hidU at e
    rw [this] at e; cases e
  refine ⟨e1, ?_, fun z => no (List.mem_append_right _ z)⟩
  cases q : H b with
  | none => rfl
  | some x => exact absurd (List.mem_append_left _ (List.mem_filter.mpr ⟨List.mem_range.mpr (Heap.lt_size e1), by rw [q]; rfl⟩)) no
theorem hidU_size (h : Heap) (H : Hp) (fs : List Addr) : (hidU h H fs).objs.size = h.objs.size := PySem.W.hideAll_size _ _
/-- a base within another -/
def Bel (base base2 : Heap) : Prop := ∀ b o, base.get? b = some o → base2.get? b = some o
theorem mod_up {K : Fg} {mg : Str → Option Value} {base base2 : Heap} (m : Mod K mg base) (k : Bel base base2) : Mod K mg base2 where
  kin := m.kin.keeps k
  glob := m.glob.keeps k
  blt := by
    obtain ⟨mb, h1, h2⟩ := m.blt
    exact ⟨mb, h1.keeps k, h2⟩
  nolimit := m.nolimit.keeps k
theorem tabB_up {mg : Str → Option Value} {base base2 : Heap} {c P : Addr} (t : TabB base mg c P) (k : Bel base base2) : TabB base2 mg c P := ⟨t.code.keeps k, t.bm.keeps k, t.gP⟩
theorem funs_re {h base base2 : Heap} : ∀ {l : List Env}, h.FunFrames base l → (∀ b ∈ frs l, base.get? b = none → base2.get? b = none) → h.FunFrames base2 l
  | [], _, _ => trivial
  | env :: r, x, y => by
    obtain ⟨hk, ⟨L, o, hf, hn, ho, hd⟩, hr⟩ := x
    have hm : frs (env :: r) = L :: frs r := by unfold frs; rw [List.filterMap_cons, hf]
    refine ⟨hk, ⟨L, o, hf, y L (by rw [hm]; exact List.mem_cons_self) hn, ho, hd⟩, funs_re hr fun b hb => y b (by rw [hm]; exact List.mem_cons_of_mem _ hb)⟩
section
variable {P : Program} {w : World} {K : Fg} {mg : Str → Option Value} {base base2 : Heap} {Z : Around} {out : List Env} {s : Shared} {H : Hp}
theorem env0_bel (e : Env0 P w K mg base Z out s H) : Bel base (hidU s.heap H (frs out)) := fun b o q => by
  obtain ⟨h1, h2⟩ := e.bs b o q
  exact hidU_get h1 h2 fun z => by
    have := (e.funs.mem z).1
    rw [q] at this; cases this
/-- the wider base at a call -/
theorem env0_up (e : Env0 P w K mg base Z out s H) : Env0 P w K mg (hidU s.heap H (frs out)) Z out s H where
  frames := e.frames
  mod := mod_up e.mod (env0_bel e)
  bs := fun b o q => ⟨(hidU_of q).1, (hidU_of q).2.1⟩
  bsz := by rw [hidU_size]; exact Nat.le_refl _
  funs := funs_re e.funs fun b hb _ => by
    cases q : (hidU s.heap H (frs out)).get? b with
    | none => rfl
    | some o => exact absurd hb (hidU_of q).2.2
  frf := e.frf
  hok := e.hok
  bare := e.bare
theorem env0_down (m : Mod K mg base) (k : Bel base base2) (z : base.objs.size ≤ base2.objs.size) (e : Env0 P w K mg base2 Z out s H) : Env0 P w K mg base Z out s H where
  frames := e.frames
  mod := m
  bs := fun b o q => e.bs b o (k b o q)
  bsz := Nat.le_trans z e.bsz
  funs := funs_re e.funs fun b hb n => by
    cases q : base.get? b with
    | none => rfl
    | some o => rw [k b o q] at n; cases n
  frf := e.frf
  hok := e.hok
  bare := e.bare
end
def noH : Hp := fun _ => none
theorem un_base {base2 : Heap} {H : Hp} {h : Heap} (k : ∀ b o, base2.get? b = some o → h.get? b = some o ∧ H b = none) : Un [] [] noH H base2 h where
  keep := fun b o e _ _ _ => (k b o e).1
  slot := fun b o e _ m _ => absurd m (by simp)
  free := fun b o e _ _ => (k b o e).2
  there := fun b o e _ => ⟨o, (k b o e).1⟩
  tups := fun b xs e => by cases e
  frzs := fun b o u e => by cases e
  tbls := fun b ps e => by cases e
theorem un_bs {base2 : Heap} {H : Hp} {h : Heap} (u : Un [] [] noH H base2 h) : ∀ b o, base2.get? b = some o → h.get? b = some o ∧ H b = none := fun b o e =>
  ⟨u.keep b o e rfl (by simp) (by simp), u.free b o e rfl (by simp)⟩
/-! ### the lambda's cells -/
theorem clo_in {cells : List (Str × Addr)} {names : List (Str × NameKind)} {y : Str} {c : Addr} (hf : ∀ z ∈ names, z.2 = .free → ∃ c, cells.lookup z.1 = some c) (e : (cloFrom cells names []).lookup y = some c) : cells.lookup y = some c ∧ (y, NameKind.free) ∈ names := by
  rcases cloFrom_mem (PySem.mem_of_lookup e) with z | ⟨m, z⟩
  · cases z
  · obtain ⟨d, hd⟩ := hf (y, .free) m rfl
    have hd : cells.lookup y = some d := hd
    rw [hd] at z
    have z : c = d := z
    exact ⟨by rw [z]; exact hd, m⟩
theorem clo_has {cells : List (Str × Addr)} {names : List (Str × NameKind)} {y : Str} (h : names.lookup y = some .free) : ∃ c, (cloFrom cells names []).lookup y = some c := mem_lookup (cloFrom_has (acc := []) (PySem.mem_of_lookup h))
section
variable {X : Cx} {pins : List (Addr × Obj)} {σ : L2.St} {H HZ : Hp} {s s1 : Shared}
/-- a def's own cell lies in the wider base -/
theorem cell_in (I : Inv X pins σ H s) {y : Str} {c : Addr} (hf : X.fn y = true) (e : X.env.cells.lookup y = some c) {v : Option Value} (hc : s.heap.IsCell c v) : (hidU s.heap H (frs X.stack)).IsCell c v := by
  obtain ⟨o, ho, hd⟩ := hc
  refine ⟨o, hidU_get ho (I.freeC y c e) fun z => ?_, hd⟩
  rcases List.mem_cons.mp (I.stkSub c z) with q | q
  · exact I.cne y c e q
  · obtain ⟨_, u, hu, _⟩ := I.ok.funs.mem q
    exact absurd (Nat.lt_of_lt_of_le (Heap.lt_size hu) (I.ok.cab y c hf e)) (Nat.lt_irrefl _)
theorem lam_startB {A : Around} {outer : List Env} {E : XK} {scope : Scope} {f c' : Addr} {hz base2 : Heap} {tk : Nat} (I : Inv X pins σ H s) (L : LamS X.env.scope scope) (hfn : ∀ y ∈ scope.names, y.2 = .free → X.fn y.1 = true) (hB : base2 = hidU s.heap H (frs X.stack)) (e0 : Env0 X.prog X.w X.K X.mg base2 A outer s1 HZ)
    (nh : A.handled = none) (ns : hz.Ns s1.heap.objs.size fun y => ([] : List (Str × Value)).reverse.lookup y) (up : ∀ b o, s1.heap.get? b = some o → hz.get? b = some o) :
    Inv (lamCx X A outer s1 HZ E scope f c') [] σ HZ { s1 with heap := hz, toks := tk } := by
  have free := L.has I.ok
  have bel : Bel X.base base2 := fun b o q => by
    rw [hB]
    obtain ⟨q1, q2⟩ := I.bs b o q
    refine hidU_get q1 q2 fun z => ?_
    have := (I.stack.mem z).1
    rw [q] at this; cases this
  have e1 : Env0 X.prog X.w X.K X.mg X.base A outer s1 HZ := env0_down I.mod bel (by rw [hB, hidU_size]; exact Nat.le_trans I.ok.bsz I.sz) e0
  -- a cell of the closure: known to the maker, still there, not tracked
  have cell : ∀ {y c}, (cloFrom X.env.cells scope.names []).lookup y = some c → X.env.cells.lookup y = some c ∧ HZ c = none ∧ ∀ v, s.heap.IsCell c v → hz.IsCell c v := fun {y c} e => by
    obtain ⟨q, m⟩ := clo_in free e
    have hf := hfn _ m rfl
    have key : ∀ v, s.heap.IsCell c v → ∃ o, base2.get? c = some o ∧ o.data = .cell v := fun v z => by
      rw [hB]; exact cell_in I hf q z
    refine ⟨q, ?_, fun v z => ?_⟩
    · obtain ⟨v, z⟩ := I.cell y c q
      obtain ⟨o, h1, _⟩ := key v z
      exact (e0.bs c o h1).2
    · obtain ⟨o, h1, h2⟩ := key v z
      exact ⟨o, up _ _ (e0.bs c o h1).1, h2⟩
  have onlyFree : ∀ {y k}, scope.names.lookup y = some k → k ≠ .local ∧ k ≠ .cell := fun {y k} h => L.own (y, k) (PySem.mem_of_lookup h)
  have kinds : ∀ {y}, Vis scope y → scope.names.lookup y = some .free := fun {y} v => by
    rcases v with v | v | v
    · exact absurd rfl (onlyFree v).1
    · exact absurd rfl (onlyFree v).2
    · exact v
  have none_ : ∀ b : Addr, b ∉ ([] : List Addr) := fun b z => by cases z
  constructor
  case ok =>
    exact {
      mod := e1.mod
      kind := L.kind
      glob := rfl
      blt := rfl
      above := Nat.le_refl _
      inj := fun x y c p q => I.ok.inj x y c (cell p).1 (cell q).1
      has := fun x hx => by
        rcases hx with hx | hx
        · exact absurd rfl (onlyFree hx).2
        · exact clo_has hx
      cab := fun x c z _ => nomatch (show false = true from z)
      hd := fun _ => nh
      frames := Around.frames_deeper e1.frames
      stk := .inr ⟨rfl, rfl⟩
      exf := fun b z => absurd z (none_ b)
      bs := e1.bs
      bsz := e1.bsz
      noex := fun b _ _ => none_ b
      exfs := fun b z => absurd z (none_ b)
      funs := e1.funs
      frf := e1.frf }
  case os => rfl
  case bare => exact e1.bare
  case base => exact Un.kept up
  case loc =>
    refine ⟨_, ns, fun i y v hN hσ hv => ?_⟩
    have hfr := kinds hv
    have hm := PySem.mem_of_lookup hfr
    have hvX : Vis X.env.scope y := .inr (L.free _ hm rfl)
    obtain ⟨m, _, look⟩ := I.loc
    obtain ⟨u, r, q⟩ := look i y v hN hσ hvX
    obtain ⟨c, hc⟩ := clo_has (cells := X.env.cells) hfr
    obtain ⟨c1, _, c3⟩ := cell hc
    refine ⟨u, r, .inr ⟨.inr hfr, c, hc, ?_⟩⟩
    rcases q with ⟨kl, _⟩ | ⟨_, d, hd, z⟩
    · have kl : X.env.scope.names.lookup y = some .local := kl
      rcases L.free _ hm rfl with k2 | k2 <;> (have k2 : X.env.scope.names.lookup y = _ := k2; rw [kl] at k2; cases k2)
    · rw [c1] at hd
      cases hd
      exact c3 _ z
  case cell =>
    intro y c e
    obtain ⟨c1, _, c3⟩ := cell e
    obtain ⟨v, z⟩ := I.cell y c c1
    exact ⟨v, c3 v z⟩
  case free => exact e1.hok.fresh (Nat.le_refl _)
  case freeC => exact fun y c e => (cell e).2.1
  case pin => exact fun q hq => by cases hq
  case hok => exact e1.hok.kept up
  case len => exact I.len
/-- such a lambda's call, over the wider base -/
theorem acts_lamB {f c' : Addr} {pm ctv : Value} {params : Arguments} {body : Expr} {scope : Scope} {k : Nat} {tb : XK → TE} {base2 : Heap}
    (I : Inv X pins σ H s) (L : LamS X.env.scope scope) (hF : ∀ y ∈ scope.names, y.2 = .free → X.fn y.1 = true) (hB : base2 = hidU s.heap H (frs X.stack)) (hf : s.heap.get? f = some (PySem.W.kla_obj "<lambda>" (X.env.qual ++ "<lambda>") params body scope (cloFrom X.env.cells scope.names []) pm c' ctv)) (hfn : H f = none) (hfr : f ∉ frs X.stack)
    (hbind : bindArgs (PySem.W.kla_fn "<lambda>" (X.env.qual ++ "<lambda>") params body scope (cloFrom X.env.cells scope.names []) pm (.ref c') ctv) ⟨[], []⟩ = pure [])
    (hbody : ∀ (A : Around) (outer : List Env) (s : Shared) (H : Hp) (E : XK), NoGd A → Room k (A.deeper (lamEnv X scope s.heap.objs.size f c')) → PE (lamCx X A outer s H E scope f c') body (tb E)) :
    Acts X.prog X.w X.K X.mg base2 k [] noH base2 f (fun E HZ Q => HZ c' = some (CodeO c' (X.env.qual ++ "<lambda>")) ∧ tb E σ HZ Q) := by
  have inB : base2.get? f = some (PySem.W.kla_obj "<lambda>" (X.env.qual ++ "<lambda>") params body scope (cloFrom X.env.cells scope.names []) pm c' ctv) := by
    rw [hB]; exact hidU_get hf hfn hfr
  refine ⟨fun HZ h un => ⟨_, _, _, _, (un_bs un f _ inB).1⟩, fun Z out s1 H1 Q E hgd hr e0 un ht => ?_⟩
  obtain ⟨hc, ht⟩ := ht
  have at1 := (un_bs un f _ inB).1
  obtain ⟨⟨oc, vs, t, hoc, hdc, hvc⟩, _, _⟩ := e0.hok c' _ hc
  have lim : s1.heap.NoLimit := e0.mod.nolimit.keeps fun b o e => (e0.bs b o e).1
  refine PySem.W.kla_callFunE hr.depth at1 rfl L.co L.gen rfl ⟨c', oc, vs, t, rfl, hoc, hdc, hvc⟩ ?_
  rw [hbind]
  refine wpAny_pure (wpAny_newFunctionEnv (fun y hy => (L.own y hy).2) (fun y hy => absurd hy (by simp)) (fun hz hns hsb => ⟨lim.fresh _ hsb, ?_⟩) L.kind)
  have J : Inv (lamCx X Z out s1 H1 E scope f c') [] σ H1 { s1 with heap := hz, toks := s1.toks + ([] : List (Str × Value)).length } :=
    lam_startB I L hF hB e0 hr.hd hns fun b o e => hsb.extBut b o (Nat.ne_of_lt (Heap.lt_size e)) (Heap.get?_push_of_some _ e)
  refine PySem.W.kla_codeExpr (wpAny_mono ((hbody Z out s1 H1 E hgd (hr.deeper _)).run [] _ _ H1 Q J ht) (fun v s' hq => ?_) fun e s' hq => hq)
  obtain ⟨w', H', J', rv, q⟩ := hq
  exact ⟨w', H', J'.os, J'.bare, J'.base, J'.hok, rv, q⟩
end
/-- a call that is refused as asked, wherever it is made behind (Hs0, H0) -/
def RaC (K : Fg) (cf : CF) (al : Nat) (C : Nat → Addr) (ws : List Str) (vw vv : V) (Hs0 H0 : Hp) (T : XK → Hp → VK → Prop) : Prop :=
  ∀ (Hs H : Hp), Frm K Hs0 H0 Hs H → ∀ (Q : VK) (E' : XK) (Q' : VK), (∀ Hs' H', Frm K Hs H Hs' H' → Q (.bl true) H') →
    (∀ v H', RfEnd K cf al vw vv Q "let" .non H' → Q' v H') → (∀ (c : Nat) (t : Str) (a : Addr) (v : V) (H' : Hp), ws[c]? = some t → H' a = some (.xd [(("value" : Str), v)]) → RfEnd K cf al vw vv Q t v H' → E' (.ref (C c)) (some a) H') → T E' H Q'
/-- what `_law_all_refused` at fa promises -/
def RaP (P : Program) (w : World) (K : Fg) (mg : Str → Option Value) (base : Heap) (k : Nat) (C : Nat → Addr) (cf : CF) (al : Nat) (ws : List Str) (fa : Addr) : Prop :=
  ∀ (Z : Around) (out : List Env) (s : Shared) (H : Hp) (L : Addr) (l : List (Addr × (XK → Hp → VK → Prop))) (vw vv : V) (uw uv : Value) (Hs : Hp) (Q : VK) (E : XK),
    NoGd Z → Room (k + 4) Z → Env0 P w K mg base Z out s H → Gd K Hs H → (∀ p ∈ l, Acts P w K mg base k [] noH base p.1 p.2 ∧ RaC K cf al C ws vw vv Hs H p.2) → H L = some (.lst (l.map fun p => .ref p.1)) → RelV vw uw → RelV vv uv →
    (∀ Hs' H', Frm K Hs H Hs' H' → Q (.bl true) H') →
    codeAny (model P w) Z (.call (.ref fa) ⟨[.ref L, uw, uv], []⟩) (CR (L2.CX P w) out P w H s Q E) s
end Rf
set_option linter.all false
set_option maxRecDepth 100000
set_option maxHeartbeats 2000000
set_option Elab.async false
/-! Rf: `_law_all_refused([lambda: .., ..], word, value)`, in the def that asks. -/
namespace Rf
open PySem PySem.Spec PyProof.Rows L2 LamX
section
variable {cf : CF} {al : Nat} {ws : List Str} {dw dv : D} {δ : Envr}
/-- all of them come to what is asked -/
def AllR (cf : CF) (al : Nat) (ws : List Str) (dw dv : D) (δ : Envr) : List Ex → Prop
  | [] => True
  | c :: r => Ok (ev cf c δ) (fun _ _ => refV cf al "let" .non dw dv = some true) (fun c d _ => ∃ t, ws[c]? = some t ∧ refV cf al t d dw dv = some true) ∧ AllR cf al ws dw dv δ r
def exsL : Exs → List Ex
  | .nil => []
  | .cons c r => c :: exsL r
theorem evF_ok {g : Unit → Envr → Prop} {e : Nat → D → Envr → Prop} : ∀ {calls : Exs}, Ok (evF cf al ws dw dv calls δ) g e → AllR cf al ws dw dv (δ.map lamS) (exsL calls) ∧ g () δ
  | .nil, h => by rw [evF] at h; exact ⟨trivial, h⟩
  | .cons c r, h => by
    rw [evF] at h
    have h2 := ok_caught h
    have key : ∀ t d, Ok ((ofO 54 (refV cf al t d dw dv) >>= fun b => if b = true then evF cf al ws dw dv r else fail 55 : M Unit) δ) g e → refV cf al t d dw dv = some true ∧ Ok (evF cf al ws dw dv r δ) g e := fun t d hh => by
      obtain ⟨b, e1, k⟩ := ofO_ok hh
      cases b with
      | true => exact ⟨e1, k⟩
      | false => exact k.elim
    cases q : ev cf c (δ.map lamS) with
    | bad n => rw [q] at h2; exact h2.elim
    | ok x δ' =>
      rw [q] at h2
      obtain ⟨a1, a2⟩ := key _ _ h2
      obtain ⟨b1, b2⟩ := evF_ok a2
      exact ⟨⟨by rw [q]; exact a1, b1⟩, b2⟩
    | exn cc d δ' =>
      rw [q] at h2
      obtain ⟨t, e1, e2⟩ := h2
      obtain ⟨a1, a2⟩ := key _ _ e2
      obtain ⟨b1, b2⟩ := evF_ok a2
      exact ⟨⟨by rw [q]; exact ⟨t, e1, a1⟩, b1⟩, b2⟩
theorem AllR.mem : ∀ {l : List Ex} {c : Ex}, AllR cf al ws dw dv δ l → c ∈ l → Ok (ev cf c δ) (fun _ _ => refV cf al "let" .non dw dv = some true) (fun c d _ => ∃ t, ws[c]? = some t ∧ refV cf al t d dw dv = some true)
  | _ :: _, _, h, m => by
    rcases List.mem_cons.mp m with rfl | m
    · exact h.1
    · exact h.2.mem m
end
/-- a lambda that was made -/
structure Mk where
  f : Addr
  fo : Obj
  c : Addr
  call : Ex
section
variable {X : Cx} {R : Rg} {C : Nat → Addr} {W : WX} {cf : CF} {σ : L2.St} {δ : Envr} {Hs : Hp}
/-- a lambda of the text, and its call in own syntax -/
structure LamE (X : Cx) (C : Nat → Addr) (cf : CF) (k : Nat) (call : Ex) (params : Arguments) (body : Expr) (scope : Scope) : Prop where
  L : LamS X.env.scope scope
  fn : ∀ y ∈ scope.names, y.2 = .free → X.fn y.1 = true
  df : defaultsOf params X.env = ([], [])
  bind : ∀ (q : Str) (cl : List (Str × Addr)) (pm cv ctv : Value), bindArgs (PySem.W.kla_fn "<lambda>" q params body scope cl pm cv ctv) ⟨[], []⟩ = pure []
  body : ∀ (R : Rg) (A : Around) (outer : List Env) (s : Shared) (H : Hp) (E : XK) (f c' : Addr), NoGd A → Room k (A.deeper (lamEnv X scope s.heap.objs.size f c')) → PE (lamCx X A outer s H E scope f c') body (tE X.K R C (fun cls d _ H => E cls d H) (ev cf call))
inductive LamL (X : Cx) (C : Nat → Addr) (cf : CF) (k : Nat) : Exs → List Expr → Prop
  | nil : LamL X C cf k .nil []
  | cons {call : Ex} {calls : Exs} {params : Arguments} {body : Expr} {scope : Scope} {pos : Pos} {es : List Expr} : LamE X C cf k call params body scope → LamL X C cf k calls es → LamL X C cf k (.cons call calls) (.Lambda params body scope pos :: es)
def MkOk (X : Cx) (C : Nat → Addr) (cf : CF) (k : Nat) (m : Mk) : Prop := ∃ (params : Arguments) (body : Expr) (scope : Scope) (pm ctv : Value), m.fo = PySem.W.kla_obj "<lambda>" (X.env.qual ++ "<lambda>") params body scope (cloFrom X.env.cells scope.names []) pm m.c ctv ∧ LamE X C cf k m.call params body scope
theorem not_cell {pm ctv : Value} {q : Str} {c : Addr} {params : Arguments} {body : Expr} {scope : Scope} {cl : List (Str × Addr)} : ∀ v, (PySem.W.kla_obj "<lambda>" q params body scope cl pm c ctv).data ≠ .cell v := fun v z => by cases z
/-- a new function object as a pin -/
theorem pin_fun {pins : List (Addr × Obj)} {H : Hp} {s : Shared} {f : Addr} {fo : Obj} (I : Inv X pins σ H s) (hf : s.heap.get? f = some fo) (hfn : H f = none) (hfr : f ∉ frs X.stack) (hd : ∀ v, fo.data ≠ .cell v) (hn : ∀ es n, fo.data ≠ .dict es n) : Inv X (pins ++ [(f, fo)]) σ H s := by
  have nL : f ≠ X.env.locals := fun z => by
    obtain ⟨_, ⟨o, es, n, e, d, _⟩, _⟩ := I.loc
    rw [← z, hf] at e
    cases e
    exact hn _ _ d
  have nF : f ∉ X.fs := fun z => hfr (by
    rcases I.ok.stk with q | ⟨q, _⟩
    · rw [q]; exact z
    · rw [q]
      obtain ⟨e, he, e2⟩ := List.mem_filterMap.mp z
      exact List.mem_filterMap.mpr ⟨e, List.mem_cons_of_mem _ he, e2⟩)
  exact { I with
    pin := fun q hq => by
      rw [← List.append_assoc] at hq
      rcases List.mem_append.mp hq with z | z
      · exact I.pin q z
      · obtain rfl := List.mem_singleton.mp z
        exact ⟨hf, hfn, nL, nF, hd⟩ }
theorem lams_run {k : Nat} {c P : Addr} {pos : Pos} {E : Value → Shared → Prop} (TB : TabB X.base X.mg c P) (hcode : X.env.code = .ref c) (hmT : (P, X.env.qual ++ "<lambda>") ∈ tbl X.K) (hu : ∀ p ∈ tbl X.K, p.1 = P → p.2 = X.env.qual ++ "<lambda>") :
    ∀ {calls : Exs} {es : List Expr}, LamL X C cf k calls es → ∀ {pins : List (Addr × Obj)} {s : Shared} {H : Hp} {Q : List Value → Shared → Prop}, Inv X pins σ H s → Wd X.K R σ δ Hs H →
    (∀ (ms : List Mk) (H1 : Hp) (s' : Shared), Inv X (pins ++ ms.map fun m => (m.f, m.fo)) σ H1 s' → Wd X.K R σ δ Hs H1 → Go σ δ Hs H δ Hs H1 → ExtN H H1 → ms.map (·.call) = exsL calls → (∀ m ∈ ms, MkOk X C cf k m ∧ m.f ∉ frs X.stack ∧ H1 m.c = some (CodeO m.c (X.env.qual ++ "<lambda>"))) → Q (ms.map fun m => .ref m.f) s') →
    wpAny (model X.prog X.w) X.A (spliced (backTo pos (starEach es X.env))) Q E s
  | _, _, .nil, pins, s, H, Q, I, w, h => by
    refine Calls.spliced_nil (h [] H s (by simpa using I) w (.refl) (ExtN.refl H) rfl fun m z => by cases z)
  | _, _, .cons (call := call) (calls := calls) (params := params) (body := body) (scope := scope) (pos := lpos) (es := es) l r, pins, s, H, Q, I, w, h => by
    show wpAny _ _ (spliced ((false, eval (.Lambda params body scope lpos) X.env) :: backTo pos (starEach es X.env))) _ _ s
    refine Calls.spliced_cons (lam_make3 I TB hcode hmT hu w.tb.tabs l.df (l.L.has I.ok) fun f c' pm' ctv H1 s' I1 lm T1 hf hfn hfr hco => ?_)
    have w1 := w.lam lm T1
    have g1 : Go σ δ Hs H δ Hs H1 := lm.go w T1
    have I2 := pin_fun I1 hf hfn hfr not_cell (fun es n z => by cases z)
    refine lams_run TB hcode hmT hu r I2 w1 fun ms H2 s2 I3 w3 g3 x3 e3 h3 => ?_
    refine h (⟨f, _, c', call⟩ :: ms) H2 s2 (by rw [List.map_cons, ← List.singleton_append, ← List.append_assoc]; exact I3) w3 (g1.trans g3) (lm.ext.trans x3) (by rw [List.map_cons, e3]; rfl) fun m hm => ?_
    rcases List.mem_cons.mp hm with rfl | hm
    · exact ⟨⟨params, body, scope, pm', ctv, rfl, l⟩, hfr, x3 _ _ hco codeO_ne⟩
    · exact h3 m hm
theorem hlen_ms {ms : List Mk} {calls : Exs} (e : ms.map (·.call) = exsL calls) : (exsL calls).length = ms.length := by rw [← e, List.length_map]
theorem vals_refs : ∀ ms : List Mk, Vals (ms.map fun m => V.ref m.f) (ms.map fun m => Value.ref m.f)
  | [] => .nil
  | m :: r => .cons rfl (vals_refs r)
theorem pe_exi {α : Type} {e : Expr} {t : α → TE} (h : ∀ a, PE X e (t a)) : PE X e (fun σ H Q => ∃ a, t a σ H Q) := ⟨fun pins s σ H Q I ⟨a, q⟩ => (h a).run pins s σ H Q I q⟩
theorem re_calm {K : Fg} {σ0 : L2.St} {β β' : Envr} {nas nas' : List Nat} {Hs0 H0 H : Hp} (w : Wd K (calmR σ0 β nas Hs0 H0) σ (δ.map lamS) Hs H) : Wd K (calmR σ β' nas' Hs H) σ (δ.map lamS) Hs H := by
  refine w.gd.wd w.len (fun i ds e => ?_) fun i d e => ?_
  · rw [List.getElem?_map] at e
    obtain ⟨s, _, h2⟩ := Option.map_eq_some_iff.mp e
    cases s <;> cases h2
  · obtain ⟨v, q1, q2⟩ := w.sh i d e
    refine ⟨v, q1, ?_⟩
    have h3 := q2.nf
    have ed : d.age = d := by
      rw [List.getElem?_map] at e
      obtain ⟨s, _, h2⟩ := Option.map_eq_some_iff.mp e
      cases s with
      | un => cases h2
      | sh d' => cases h2; exact D.age_age d'
      | ow ds => cases h2; show D.age (.lst .ol (D.ages ds)) = _; simp only [D.age, D.ages_ages]; rfl
    rw [ed] at h3; exact h3
/-- `_law_all_refused([lambda: .., ..], word, value)` -/
theorem s_rfa {k : Nat} {fa c P : Addr} {x : Str} {es : List Expr} {we ve : Expr} {p lpos pos : Pos} {calls : Exs} {word val : Ex} {al : Nat} {ws : List Str} (RP : ∀ base2 : Heap, Bel X.base base2 → RaP X.prog X.w X.K X.mg base2 k C cf al ws fa) (hr : Room (k + 4) X.A) (hgd : NoGd X.A) (tk : Takes X W) (hg : Gl X x) (hm : X.mg x = some (.ref fa)) (hk : PySem.W.keepIn X.K (.ref fa) = true)
    (hdb : (x == ("__debug__" : Str)) = false) (TB : TabB X.base X.mg c P) (hcode : X.env.code = .ref c) (hmT : (P, X.env.qual ++ "<lambda>") ∈ tbl X.K) (hu : ∀ p ∈ tbl X.K, p.1 = P → p.2 = X.env.qual ++ "<lambda>") (hes : LamL X C cf k calls es) (hlen : (exsL calls).length ≤ sizeLine) (hs1 : NotStar we) (hs2 : NotStar ve)
    (hw : PE X we (tE X.K R C W (ev cf word))) (hv : PE X ve (tE X.K R C W (ev cf val))) :
    PE X (.Call (.Name x p) [.List es lpos, we, ve] [] pos) (tE X.K R C W (ev cf (.rfa calls word val al ws))) := by
  refine ⟨fun pins s σ H Q I ⟨Hs, δ, wd, h⟩ => ?_⟩
  rw [ev] at h
  refine wpAny_Call_Name_kw (ld_glob I hg hm ?_ hdb)
  have hpl : (backTo pos (starEach [we, ve] X.env)).any (·.1) = false := by
    rw [star_of hs1, star_of hs2]; rfl
  refine PySem.W.callWith_K (h₀ := X.base) I.ok.mod.kin hk ?_ (by rfl) hpl
  show wpAny _ _ (spliced ((false, eval (.List es lpos) X.env) :: backTo pos (starEach [we, ve] X.env))) _ _ s
  refine Calls.spliced_cons (wpAny_List_spliced (lams_run TB hcode hmT hu hes I wd fun ms H1 s' I1 w1 g1 x1 e1 h1 => ⟨by rw [List.length_map, ← hlen_ms e1]; exact hlen, ?_⟩))
  have hLn : H1 s'.heap.objs.size = none := I1.hok.fresh (Nat.le_refl _)
  have I2 : Inv X (pins ++ ms.map fun m => (m.f, m.fo)) σ (upd H1 s'.heap.objs.size (.lst (ms.map fun m => .ref m.f))) { s' with heap := s'.heap.push { cls := .type "list", data := .seq (ms.map fun m => Value.ref m.f).toArray } } :=
    I1.laid (t' := s'.toks) (fun b u e => Heap.get?_push_of_some _ e) (Nat.le_refl _) ⟨by rw [List.length_map, ← hlen_ms e1]; exact hlen, ms.map fun m => Value.ref m.f, 0, vals_refs ms, Heap.get?_push_size _ rfl⟩
  generalize s'.heap.objs.size = Ln at hLn I2 ⊢
  have x2 : Ext Hs H1 Hs (upd H1 Ln (.lst (ms.map fun m => .ref m.f))) := Ext.newO w1.sub hLn fun ps z => by cases z
  have w2 := w1.ext x2
  have g2 : Go σ δ Hs H1 δ Hs (upd H1 Ln (.lst (ms.map fun m => .ref m.f))) := x2.go
  have nOL : ¬ Own σ δ Ln := w1.notOwn hLn
  have hargs := pa_cons hw (pa_cons hv pa_nil (star_of hs2)) (star_of hs1)
  refine thn (hargs.run pos _ _ σ _ (fun vs H3 => ∃ vw vv Hs3 δ3 dw dv, vs = [vw, vv] ∧ Wd X.K R σ δ3 Hs3 H3 ∧ Go σ δ Hs (upd H1 Ln (.lst (ms.map fun m => .ref m.f))) δ3 Hs3 H3 ∧ Dq X.K R.N Hs3 vw dw ∧ Dq X.K R.N Hs3 vv dv ∧
      Ok ((evF cf al ws dw dv calls >>= fun _ => pure (Rs.fz (.bl true))) δ3) (fun r δ' => ∀ v Hs' H', Post X.K R σ δ Hs H δ' Hs' H' v r → Q v H') (Xc X.K R C W σ)) I2 ?_) ?_
  · refine tE_bind w2 h fun rw δ1 vw Hs2 H2 p1 k1 => ?_
    obtain ⟨Hs3, w3, g3, o3, _⟩ := p1.opd
    obtain ⟨dw, δ4, Hs4, w4, g4, hdw, k4⟩ := esc_ok w3 o3 k1
    refine tE_bind w4 k4 fun rv δ5 vv Hs5 H5 p5 k5 => ?_
    obtain ⟨Hs6, w6, g6, o6, _⟩ := p5.opd
    obtain ⟨dv, δ7, Hs7, w7, g7, hdv, k7⟩ := esc_ok w6 o6 k5
    exact ⟨vw, vv, Hs7, δ7, dw, dv, rfl, w7, (((g3.trans g4).trans g6).trans g7), hdw.mono (g6.hs.trans g7.hs), hdv, k7⟩
  rintro us s3 ⟨vs, H3, I3, rv, vw, vv, Hs3, δ3, dw, dv, rfl, w3, g3, hdw, hdv, k3⟩
  obtain ⟨uw, uv, rfl, rw, ru⟩ : ∃ uw uv, us = [uw, uv] ∧ RelV vw uw ∧ RelV vv uv := by
    cases rv with
    | cons a b =>
      cases b with
      | cons c d => cases d; exact ⟨_, _, rfl, a, c⟩
  have I4 : Inv X pins σ H3 s3 := { I3 with pin := fun q hq => I3.pin q (by rw [← List.append_assoc]; exact List.mem_append_left _ hq) }
  have hL3 : H3 Ln = some (.lst (ms.map fun m => .ref m.f)) := (g3.fr Ln _ upd_same nOL).lst
  obtain ⟨all, k5⟩ := evF_ok k3.bindI
  obtain ⟨Hsf, sf, wf⟩ := lam_wd w3
  refine ⟨I4.kIn, ?_⟩
  have hA : ∀ p ∈ ms.map (fun m : Mk => (m.f, fun (E : XK) (HZ : Hp) (Q : VK) => HZ m.c = some (CodeO m.c (X.env.qual ++ "<lambda>")) ∧ ∃ R' : Rg, tE X.K R' C (fun cls d _ H => E cls d H) (ev cf m.call) σ HZ Q)),
      Acts X.prog X.w X.K X.mg (hidU s3.heap H3 (frs X.stack)) k [] noH (hidU s3.heap H3 (frs X.stack)) p.1 p.2 ∧ RaC X.K cf al C ws vw vv Hsf H3 p.2 := fun p hp => by
    obtain ⟨m, hm, rfl⟩ := List.mem_map.mp hp
    obtain ⟨⟨params, body, scope, pm, ctv, hfo, l⟩, hfr, hco⟩ := h1 m hm
    obtain ⟨hf3, hfn3, _, _, _⟩ := I3.pin (m.f, m.fo) (List.mem_append_right _ (List.mem_append_right _ (List.mem_map.mpr ⟨m, hm, rfl⟩)))
    have hf3 : s3.heap.get? m.f = some m.fo := hf3
    rw [hfo] at hf3
    have hco3 : H3 m.c = some (CodeO m.c (X.env.qual ++ "<lambda>")) := by
      have nL : m.c ≠ Ln := fun z => by rw [z, hLn] at hco; cases hco
      rcases g3.fr m.c _ (by rw [upd_ne nL]; exact hco) (fun ⟨i, ds, e1, e2⟩ => by
        obtain ⟨b, us, q1, q2, q3, _⟩ := w1.ow i ds e1
        rw [e2] at q1; cases q1
        rw [hco] at q3
        unfold CodeO at q3
        cases q3) with q | ⟨⟨ps, q⟩, _⟩
      · exact q
      · exact absurd q (codeO_ne ps)
    refine ⟨acts_lamB (tb := fun E σ H Q => ∃ R' : Rg, tE X.K R' C (fun cls d _ H => E cls d H) (ev cf m.call) σ H Q) I4 l.L l.fn rfl hf3 hfn3 hfr (l.bind _ _ _ _ _) fun A outer s H E hgA hrA => pe_exi fun R' => l.body R' A outer s H E m.f m.c hgA hrA, ?_⟩
    intro Hs' H' fm Q1 E' Q' hgood hQ hE
    have w6 : Wd X.K (calmR σ (δ3.map lamS) [] Hs' H') σ (δ3.map lamS) Hs' H' := re_calm (fm.wd wf)
    have fin : ∀ (t : Str) (v : V) (d : D) (δ' : Envr) (Hs2 H2 : Hp), Wd X.K (calmR σ (δ3.map lamS) [] Hs' H') σ δ' Hs2 H2 → Dq X.K (calmR σ (δ3.map lamS) [] Hs' H').N Hs2 v d → refV cf al t d dw dv = some true → RfEnd X.K cf al vw vv Q1 t v H2 := fun t v d δ' Hs2 H2 w' hd kk =>
      ⟨Hs2, dw, dv, d, true, w'.gd, (hdw.mono (sf.trans (fm.bs.trans w'.bs))).nf, (hdv.mono (sf.trans (fm.bs.trans w'.bs))).nf, hd.nf, kk, fun Hs5 H5 fm5 => hgood Hs5 H5 (w'.frm.trans fm5)⟩
    have codeH : H' m.c = some (CodeO m.c (X.env.qual ++ "<lambda>")) := by
      rcases fm.fr m.c _ hco3 with q | ⟨⟨ps, q⟩, _⟩
      · exact q
      · exact absurd q (codeO_ne ps)
    exact ⟨codeH, _, Hs', _, w6, (all.mem (by rw [← e1]; exact List.mem_map.mpr ⟨m, hm, rfl⟩)).imp (fun r δ' kk v Hs2 H2 p => hQ v H2 (fin "let" .non .non δ' Hs2 H2 p.wd .non kk)) fun c0 d δ' ⟨t, et, kk⟩ Hs2 H2 a v w' hx hd => hE c0 t a v H2 et hx (fin t v d δ' Hs2 H2 w' hd kk)⟩
  refine wpAny_call (codeAny_mono (RP (hidU s3.heap H3 (frs X.stack)) (env0_bel I4.env0) X.A X.stack s3 H3 Ln _ vw vv uw uv Hsf Q (WE W σ) hgd hr (env0_up I4.env0) wf.gd hA (by rw [List.map_map]; exact hL3) rw ru fun Hs' H' fm => ?_) fun r s' hq => ?_)
  · obtain ⟨w5, g5⟩ := back_of (Hs1 := Hsf) w3 (sf.trans fm.bs) fm.gd fm.fr
    exact k5 (.bl true) Hs3 H' (.of_val (((g1.trans g2).trans g3).trans g5) w5 (.bl true))
  · cases r with
    | error e => exact passAt tk σ pins H3 s3 e s' I4 hq
    | ok fl =>
      cases fl with
      | ret u => exact I4.after hq
      | next => exact hq.elim
      | brk => exact hq.elim
      | cont => exact hq.elim
end
end Rf
set_option linter.all false
set_option maxRecDepth 100000
set_option maxHeartbeats 1000000
set_option Elab.async false
/-! Rf soundness, part 18s: {}, blocks with a region of their own, scrambles. -/
namespace Rf
open PySem PySem.Spec PyProof.Rows L2
/-- a region to whose base one may go back -/
structure RgOk (K : Fg) (R : Rg) : Prop where
  sub : Sub R.Bs R.B
  a : ∀ b, R.A b → R.Bs b = none
  b : ∀ (i : Nat) (d : D), R.β[i]? = some (.sh d) → ∃ v, R.σb[i]? = some (some v) ∧ Dq K R.N R.Bs v d
section
variable {K : Fg} {R : Rg} {σ : L2.St} {δ : Envr} {Hs H : Hp}
/-- the region that begins here -/
def hereR (σ : L2.St) (δ : Envr) (Hs H : Hp) (nas : List Nat) : Rg := { B := H, Bs := Hs, A := Own σ δ, σb := σ, β := δ.map ageSV, nas := nas }
theorem aged_get {i : Nat} {s : SV} (h : (δ.map ageSV)[i]? = some s) : ∃ t, δ[i]? = some t ∧ s = ageSV t := by
  rw [List.getElem?_map] at h
  obtain ⟨t, h1, h2⟩ := Option.map_eq_some_iff.mp h
  exact ⟨t, h1, h2.symm⟩
theorem own_aged {a : Addr} : Own σ (δ.map ageSV) a → Own σ δ a := fun ⟨i, ds, h1, h2⟩ => by
  obtain ⟨t, e1, e2⟩ := aged_get h1
  cases t with
  | ow es => exact ⟨i, es, e1, h2⟩
  | un => cases e2
  | sh d => cases e2
theorem here_wd {nas : List Nat} (w : Wd K R σ δ Hs H) : Wd K (hereR σ δ Hs H nas) σ (δ.map ageSV) Hs H where
  bs := .refl _
  sub := w.sub
  fr := fun b o h _ => .inl h
  tb := w.tb
  ns := w.ns
  dom := fun b h => h
  nf := fun b h => .inl h
  len := by rw [List.length_map]; exact w.len
  sh := fun i d e => by
    obtain ⟨t, e1, e2⟩ := aged_get e
    cases t with
    | sh d' =>
      cases e2
      obtain ⟨v, h1, h2⟩ := w.sh i d' e1
      exact ⟨v, h1, h2.aged⟩
    | un => cases e2
    | ow ds => cases e2
  ow := fun i ds e => by
    obtain ⟨t, e1, e2⟩ := aged_get e
    cases t with
    | ow es =>
      cases e2
      obtain ⟨a, vs, h1, h2, h3, h4⟩ := w.ow i es e1
      exact ⟨a, vs, h1, h2, h3, h4.aged⟩
    | un => cases e2
    | sh d => cases e2
  owA := fun a h => .inl (own_aged h)
  dj := fun i j ds es a e1 e2 g1 g2 => by
    obtain ⟨t, f1, f2⟩ := aged_get e1
    obtain ⟨u, f3, f4⟩ := aged_get e2
    cases t with
    | ow x =>
      cases u with
      | ow y => exact w.dj i j x y a f1 f3 g1 g2
      | un => cases f4
      | sh d => cases f4
    | un => cases f2
    | sh d => cases f2
  kp := fun _ _ => rfl
theorem here_ok {nas : List Nat} (w : Wd K R σ δ Hs H) : RgOk K (hereR σ δ Hs H nas) where
  sub := w.sub
  a := fun b h => w.own_none h
  b := fun i d e => by
    obtain ⟨t, e1, e2⟩ := aged_get e
    cases t with
    | sh d' =>
      cases e2
      obtain ⟨v, h1, h2⟩ := w.sh i d' e1
      exact ⟨v, h1, h2.aged⟩
    | un => cases e2
    | ow ds => cases e2
theorem here_N {nas : List Nat} (w : Wd K R σ δ Hs H) : ∀ a, (hereR σ δ Hs H nas).N a → R.N a := fun a h => by
  rcases h with h | h
  · exact w.owA a h
  · exact w.newN h
/-- back in the region around -/
theorem here_out {nas : List Nat} {σ' : L2.St} {δ' : Envr} {Hs' H' : Hp} (w : Wd K R σ δ Hs H) (hn : ∀ i ∈ R.nas, i ∈ nas) (w' : Wd K (hereR σ δ Hs H nas) σ' δ' Hs' H') : Wd K R σ' δ' Hs' H' where
  bs := w.bs.trans w'.bs
  sub := w'.sub
  tb := w'.tb
  ns := w'.ns
  fr := fun b o e n => (w.fr b o e n).trans fun o1 e1 => w'.fr b o1 e1 fun z => by
    rcases w.owA b z with q | q
    · exact n q
    · rw [e] at q; cases q
  dom := fun b e => w'.dom b (w.dom b e)
  nf := fun b e => by
    rcases w'.nf b e with q | q
    · exact w.nf b q
    · exact .inr (here_N w b q)
  len := w'.len
  sh := fun i d e => let ⟨v, h1, h2⟩ := w'.sh i d e; ⟨v, h1, h2.base (here_N w)⟩
  ow := fun i ds e => let ⟨a, vs, h1, h2, h3, h4⟩ := w'.ow i ds e; ⟨a, vs, h1, h2, h3, h4.base (here_N w)⟩
  owA := fun a h => here_N w a (w'.owA a h)
  dj := w'.dj
  kp := fun i hi => (w'.kp i (hn i hi)).trans (w.kp i hi)
theorem here_rs {nas : List Nat} {σ' : L2.St} {δ' : Envr} {Hs' H' : Hp} {v : V} {r : Rs} (w : Wd K R σ δ Hs H) (h : RsOk K (hereR σ δ Hs H nas) Hs' H' σ' δ' v r) : RsOk K R Hs' H' σ' δ' v r := by
  cases r with
  | fz d => exact Dq.base (here_N w) h
  | sl i => exact h
  | nw ds =>
    obtain ⟨a, us, e, h1, h2, h3, h4, h5⟩ := h
    exact ⟨a, us, e, h1, h2, h3.base (here_N w), h4, here_N w a h5⟩
theorem keepS_get {keep : List Nat} {β : Envr} {s : SV} (hs : s ≠ .un) : ∀ {δ : Envr} {i k : Nat}, (keepS keep β i δ)[k]? = some s → (∃ d, s = .sh d ∧ i + k ∈ keep ∧ β[i + k]? = some (.sh d)) ∨ (∃ t, δ[k]? = some t ∧ scalS t = s)
  | [], i, k, h => by simp [keepS] at h
  | v :: r, i, 0, h => by
    unfold keepS at h
    have h := Option.some.inj h
    split at h
    · rename_i hk
      split at h
      · rename_i d e
        exact .inl ⟨d, h.symm, hk, e⟩
      · exact .inr ⟨v, rfl, h⟩
    · exact .inr ⟨v, rfl, h⟩
  | v :: r, i, k + 1, h => by
    unfold keepS at h
    have h : (keepS keep β (i + 1) r)[k]? = some s := by simpa using h
    have e : i + 1 + k = i + (k + 1) := by omega
    rcases keepS_get hs h with ⟨d, h1, h2, h3⟩ | ⟨t, h1, h2⟩
    · rw [e] at h2 h3; exact .inl ⟨d, h1, h2, h3⟩
    · exact .inr ⟨t, by simpa using h1, h2⟩
theorem keepS_len {keep : List Nat} {β : Envr} : ∀ {δ : Envr} {i : Nat}, (keepS keep β i δ).length = δ.length
  | [], _ => rfl
  | v :: r, i => by unfold keepS; rw [List.length_cons, List.length_cons, keepS_len]
theorem scal_sh {t : SV} {d : D} (h : scalS t = .sh d) : t = .sh d ∧ d.scal = true := by
  cases t with
  | un => cases h
  | sh d' =>
    simp only [scalS] at h
    split at h
    · cases h; exact ⟨rfl, by assumption⟩
    · cases h
  | ow ds =>
    simp only [scalS] at h
    split at h <;> cases h
theorem scal_ow {t : SV} {ds : List D} (h : scalS t = .ow ds) : t = .ow ds ∧ ds.all D.scal = true := by
  cases t with
  | un => cases h
  | sh d' =>
    simp only [scalS] at h
    split at h <;> cases h
  | ow es =>
    simp only [scalS] at h
    split at h
    · cases h; exact ⟨rfl, by assumption⟩
    · cases h
/-- what was made since the base may be written anew, if all of it is forgotten -/
theorem Wd.scr (w : Wd K R σ δ Hs H) (ok : RgOk K R) {keep : List Nat} (hk : ∀ i ∈ keep, i ∈ R.nas) {a : Addr} {o o' : HO} (ha : R.N a) {vs0 : List V} (hH0 : H a = some (.lst vs0)) (hH : Hs a = some o) (ho : ∀ ps, o' ≠ .tbl ps := by intro _ z; cases z) : Wd K R σ (keepS keep R.β 0 δ) R.Bs (upd H a o') := by
  have hb : R.Bs a = none := by
    rcases ha with h | h
    · exact ok.a a h
    · exact ok.sub.back h
  have sl : ∀ {i : Nat} {ds : List D}, (keepS keep R.β 0 δ)[i]? = some (.ow ds) → δ[i]? = some (.ow ds) ∧ ds.all D.scal = true := fun e => by
    rcases keepS_get (by intro z; cases z) e with ⟨d, z, _⟩ | ⟨t, h1, h2⟩
    · cases z
    · obtain ⟨rfl, h4⟩ := scal_ow h2
      exact ⟨h1, h4⟩
  have oo : ∀ b, Own σ (keepS keep R.β 0 δ) b → Own σ δ b := fun b ⟨i, ds, h1, h2⟩ => ⟨i, ds, (sl h1).1, h2⟩
  exact {
    bs := .refl _
    sub := fun b u e => by
      have q : b ≠ a := fun z => by rw [z, hb] at e; cases e
      rw [upd_ne q]
      exact w.sub b u (w.bs b u e)
    fr := fun b u e n => by
      have q : b ≠ a := fun z => by
        subst z
        rcases ha with h | h
        · exact n h
        · rw [e] at h; cases h
      exact (w.fr b u e n).upd q
    tb := w.tb.updL hH0 ho
    ns := fun b ps e => w.ns b ps (w.bs b _ e)
    dom := fun b e => by
      by_cases q : b = a
      · subst q; rw [upd_same]; intro z; cases z
      · rw [upd_ne q]; exact w.dom b e
    nf := fun b h => .inl h
    len := by rw [keepS_len]; exact w.len
    sh := fun i d e => by
      rcases keepS_get (by intro z; cases z) e with ⟨d', z, h1, h2⟩ | ⟨t, h1, h2⟩
      · cases z
        rw [Nat.zero_add] at h1 h2
        obtain ⟨v, g1, g2⟩ := ok.b i d h2
        exact ⟨v, by rw [w.kp i (hk i h1)]; exact g1, g2⟩
      · obtain ⟨rfl, h4⟩ := scal_sh h2
        obtain ⟨v, g1, g2⟩ := w.sh i d h1
        exact ⟨v, g1, Dq.scal h4 g2⟩
    ow := fun i ds e => by
      obtain ⟨h1, h2⟩ := sl e
      obtain ⟨b, vs, g1, g2, g3, g4⟩ := w.ow i ds h1
      have q : b ≠ a := fun z => by rw [z, hH] at g2; cases g2
      exact ⟨b, vs, g1, w.bs.back g2, by rw [upd_ne q]; exact g3, DqAll.scals h2 g4⟩
    owA := fun b h => w.owA b (oo b h)
    dj := fun i j ds es b e1 e2 g1 g2 => w.dj i j ds es b (sl e1).1 (sl e2).1 g1 g2
    kp := w.kp }
end
section
variable {X : Cx} {R : Rg} {C : Nat → Addr} {W : WX} {cf : CF}
/-- a block with a region of its own -/
theorem ss_blk {nas : List Nat} {st : List Stmt} {b : Sts} (hn : ∀ i ∈ R.nas, i ∈ nas) (h1 : ∀ R' : Rg, R'.nas = nas → RgOk X.K R' → PSs X st (tS X.K R' C W (execs cf R'.β b))) : PSs X st (tS X.K R C W (execs cf R.β (.blk nas b .nil))) := by
  refine ⟨fun pins s σ H D I ⟨Hs, δ, wd, h⟩ => ?_⟩
  rw [execs] at h
  refine (h1 (hereR σ δ Hs H nas) rfl (here_ok wd)).run pins s σ H D I ⟨Hs, _, here_wd wd, ?_⟩
  have h := Ok.bindI h
  refine Ok.imp (show Ok (execs cf (δ.map ageSV) b (δ.map ageSV)) _ _ from h) (fun o δ' hr => ?_) fun c d δ' x => fun σ' Hs' H' a v w q1 q2 => x σ' Hs' H' a v (here_out wd hn w) q1 (q2.base (here_N wd))
  cases o with
  | nx =>
    have hr : Ok (execs cf R.β .nil δ') (EndOk X.K R D) (Xs X.K R C W) := hr
    rw [execs] at hr
    exact fun σ' Hs' H' w => hr σ' Hs' H' (here_out wd hn w)
  | bk => exact fun σ' Hs' H' w => (show EndOk X.K R D .bk δ' from hr) σ' Hs' H' (here_out wd hn w)
  | ret r => exact fun v σ' Hs' H' w rs => (show EndOk X.K R D (.ret r) δ' from hr) v σ' Hs' H' (here_out wd hn w) (here_rs wd rs)
/-- .. and what stands behind it -/
theorem ss_blkT {nas : List Nat} {st : List Stmt} {b r : Sts} {u : TS} (hn : ∀ i ∈ R.nas, i ∈ nas) (h1 : ∀ R' : Rg, R'.nas = nas → RgOk X.K R' → PSs X st (tSt X.K R' C W (execs cf R'.β b) (tSt X.K R C W (execs cf R.β r) u))) : PSs X st (tSt X.K R C W (execs cf R.β (.blk nas b r)) u) := by
  refine ⟨fun pins s σ H D I ⟨Hs, δ, wd, h⟩ => ?_⟩
  rw [execs] at h
  refine (h1 (hereR σ δ Hs H nas) rfl (here_ok wd)).run pins s σ H D I ⟨Hs, _, here_wd wd, ?_⟩
  have h := Ok.bindI h
  refine Ok.imp (show Ok (execs cf (δ.map ageSV) b (δ.map ageSV)) _ _ from h) (fun o δ' hr => ?_) fun c d δ' x => fun σ' Hs' H' a v w q1 q2 => x σ' Hs' H' a v (here_out wd hn w) q1 (q2.base (here_N wd))
  cases o with
  | nx => exact fun σ' Hs' H' w => ⟨Hs', δ', here_out wd hn w, hr⟩
  | bk => exact fun σ' Hs' H' w => (show EndOk X.K R { D with nx := u D } .bk δ' from hr) σ' Hs' H' (here_out wd hn w)
  | ret r => exact fun v σ' Hs' H' w rs => (show EndOk X.K R { D with nx := u D } (.ret r) δ' from hr) v σ' Hs' H' (here_out wd hn w) (here_rs wd rs)
/-- p.append(e), p a shared list made since the base: all of it is forgotten -/
theorem s_scr {keep : List Nat} {p e : Expr} {pe ee : Ex} {apos cpos pos : Pos} (hk : ∀ i ∈ keep, i ∈ R.nas) (ok : RgOk X.K R) (h0 : attributeBase p "append" X.env (eval p X.env) = eval p X.env) (hline : (apos.endLine == cpos.line) = true) (hs : NotStar e) (hp : PE X p (tE X.K R C W (ev cf pe))) (he : PE X e (tE X.K R C W (ev cf ee))) :
    PS X (.Expr (.Call (.Attribute p "append" apos) [e] [] cpos) pos) (tS X.K R C W (exec cf R.β (.scr keep pe ee))) := by
  refine (ps_expr (pe_bm PySem.F.plainAttrs_list PySem.F.slot_list_append PySem.F.type_list_append mt_append hp (pa_cons he pa_nil (star_of hs)) h0 (few1 hs) hline (star_of hs) rfl) rfl).mono fun D σ H ⟨Hs, δ, wd, h⟩ => ?_
  rw [exec] at h
  refine tE_stmt wd h fun r δ1 v Hs1 H1 p1 k1 => ?_
  obtain ⟨Hs2, w2, g2, o2, _⟩ := p1.opd
  obtain ⟨d, e1, k2⟩ := rdM_ok k1
  cases r with
  | fz d' =>
    cases e1
    cases d with
    | lst f ds =>
      cases f with
      | nu =>
        have o2 : Dq X.K R.N Hs2 v (.lst .nu ds) := o2
        cases o2 with
        | lst q1 q2 =>
          rename_i a xs
          have hle : ds.length < lim := by
            by_cases c : ds.length < lim
            · exact c
            · simp only at k2
              rw [if_neg c] at k2; exact k2.elim
          simp only at k2
          rw [if_pos hle] at k2
          refine ⟨.inl ⟨rfl, xs, .of (w2.sub _ _ q1.2)⟩, ?_⟩
          refine tE_stmt w2 k2 fun r3 δ3 y Hs3 H3 p3 k3 => ?_
          have hs3 := p3.go.hs _ _ q1.2
          refine ⟨a, xs, y, rfl, rfl, p3.wd.sub _ _ hs3, by rw [q2.length]; exact limT hle, ?_⟩
          exact k3 σ _ _ (p3.wd.scr ok hk q1.1 (p3.wd.sub _ _ hs3) hs3)
      | ol => exact (k2 : False).elim
      | ro => exact (k2 : False).elim
    | _ => exact (k2 : False).elim
  | _ => exact (k2 : False).elim
end
end Rf
set_option linter.all false
set_option maxRecDepth 100000
set_option maxHeartbeats 1000000
set_option Elab.async false
/-! Rf soundness, part 19: a def's body. -/
namespace Rf
open PySem PySem.Spec PyProof.Rows L2
theorem mask_get {nas : List Nat} {s : SV} (hs : s ≠ .un) : ∀ {as : List SV} {i k : Nat} {δ : Envr}, (maskW nas as i δ)[k]? = some s → i + k ∈ nas ∧ δ[i + k]? = some s ∧ ∃ ds : List D, as[k]? = some (SV.ow ds)
  | [], i, k, δ, h => by simp [maskW] at h
  | .ow ds :: r, i, 0, δ, h => by
    unfold maskW at h
    have h := Option.some.inj h
    by_cases c : i ∈ nas
    · rw [if_pos c] at h
      refine ⟨c, ?_, ds, rfl⟩
      cases q : δ[i]? with
      | none => rw [q] at h; exact absurd h.symm hs
      | some x => rw [q] at h; exact congrArg some h
    · rw [if_neg c] at h; exact absurd h.symm hs
  | .ow ds :: r, i, k + 1, δ, h => by
    unfold maskW at h
    obtain ⟨h1, h2, h3⟩ := mask_get hs (as := r) (i := i + 1) (k := k) (by simpa using h)
    have e : i + 1 + k = i + (k + 1) := by omega
    rw [e] at h1 h2
    exact ⟨h1, h2, by simpa using h3⟩
  | .un :: r, i, 0, δ, h => by
    unfold maskW at h
    exact absurd (Option.some.inj h).symm hs
  | .un :: r, i, k + 1, δ, h => by
    unfold maskW at h
    obtain ⟨h1, h2, h3⟩ := mask_get hs (as := r) (i := i + 1) (k := k) (by simpa using h)
    have e : i + 1 + k = i + (k + 1) := by omega
    rw [e] at h1 h2
    exact ⟨h1, h2, by simpa using h3⟩
  | .sh d :: r, i, 0, δ, h => by
    unfold maskW at h
    exact absurd (Option.some.inj h).symm hs
  | .sh d :: r, i, k + 1, δ, h => by
    unfold maskW at h
    obtain ⟨h1, h2, h3⟩ := mask_get hs (as := r) (i := i + 1) (k := k) (by simpa using h)
    have e : i + 1 + k = i + (k + 1) := by omega
    rw [e] at h1 h2
    exact ⟨h1, h2, by simpa using h3⟩
theorem mask_len {nas : List Nat} : ∀ {as : List SV} {i : Nat} {δ : Envr}, (maskW nas as i δ).length = as.length
  | [], _, _ => by simp [maskW]
  | .ow _ :: r, i, δ => by unfold maskW; rw [List.length_cons, List.length_cons, mask_len]
  | .un :: r, i, δ => by unfold maskW; rw [List.length_cons, List.length_cons, mask_len]
  | .sh _ :: r, i, δ => by unfold maskW; rw [List.length_cons, List.length_cons, mask_len]
/-- the region of a def's body -/
def bodyR (N : List Str) (nas : List Nat) (vs : List V) (as : List SV) (δ0 : Envr) (Hs H : Hp) : Rg := { B := H, Bs := Hs, A := Own (vs.map some) as, σb := start N vs, β := δ0, nas := nas }
section
variable {K : Fg} {C : Nat → Addr} {N : List Str} {nas : List Nat} {vs : List V} {as : List SV} {δ0 δ' : Envr} {Hs H Hs' H' : Hp} {σ' : L2.St}
theorem start_get {k : Nat} (h : k < vs.length) : (start N vs)[k]? = (vs.map some)[k]? := by
  unfold L2.start
  rw [List.getElem?_append_left (by simpa using h)]
theorem ext_get {m k : Nat} {s : SV} (hs : s ≠ .un) (h : (as ++ List.replicate m SV.un)[k]? = some s) : k < as.length ∧ as[k]? = some s := by
  by_cases c : k < as.length
  · rw [List.getElem?_append_left c] at h; exact ⟨c, h⟩
  · rw [List.getElem?_append_right (by omega), List.getElem?_replicate] at h
    split at h
    · cases h; exact absurd rfl hs
    · cases h
theorem body_wd {m : Nat} (w : Wd K (entryR vs as Hs H) (vs.map some) as Hs H) (hl : N.length = as.length + m) : Wd K (bodyR N nas vs as (as ++ List.replicate m .un) Hs H) (start N vs) (as ++ List.replicate m .un) Hs H := by
  have hv : vs.length = as.length := by have := w.len; rwa [List.length_map] at this
  have sg : ∀ {k : Nat} {s : SV}, s ≠ .un → (as ++ List.replicate m SV.un)[k]? = some s → as[k]? = some s ∧ (start N vs)[k]? = (vs.map some)[k]? := fun hs e => by
    obtain ⟨h1, h2⟩ := ext_get hs e
    exact ⟨h2, start_get (by omega)⟩
  exact {
    bs := w.bs
    sub := w.sub
    fr := fun b o h _ => .inl h
    tb := w.tb
    ns := w.ns
    dom := fun b h => h
    nf := fun b h => .inl h
    len := by unfold L2.start; rw [List.length_append, List.length_append, List.length_map, List.length_replicate, List.length_replicate]; omega
    sh := fun k d e => by
      obtain ⟨h1, h2⟩ := sg (by intro z; cases z) e
      rw [h2]; exact w.sh k d h1
    ow := fun k ds e => by
      obtain ⟨h1, h2⟩ := sg (by intro z; cases z) e
      rw [h2]; exact w.ow k ds h1
    owA := fun a ⟨k, ds, e1, e2⟩ => by
      obtain ⟨h1, h2⟩ := sg (by intro z; cases z) e1
      rw [h2] at e2
      exact .inl ⟨k, ds, h1, e2⟩
    dj := fun k l ds es a e1 e2 g1 g2 => by
      obtain ⟨h1, h2⟩ := sg (by intro z; cases z) e1
      obtain ⟨h3, h4⟩ := sg (by intro z; cases z) e2
      rw [h2] at g1
      rw [h4] at g2
      exact w.dj k l ds es a h1 h3 g1 g2
    kp := fun _ _ => rfl }
theorem mask_wd (hv : vs.length = as.length) (w : Wd K (bodyR N nas vs as δ0 Hs H) σ' δ' Hs' H') : Wd K (entryR vs as Hs H) (vs.map some) (maskW nas as 0 δ') Hs' H' ∧ (∀ a, Own (vs.map some) (maskW nas as 0 δ') a → Own (vs.map some) as a) ∧ ∀ a, Own (vs.map some) (maskW nas as 0 δ') a → Own σ' δ' a := by
  have mg : ∀ {k : Nat} {s : SV}, s ≠ .un → (maskW nas as 0 δ')[k]? = some s → δ'[k]? = some s ∧ (∃ ds : List D, as[k]? = some (SV.ow ds)) ∧ σ'[k]? = (vs.map some)[k]? := fun {k s} hs e => by
    obtain ⟨h1, h2, h3⟩ := mask_get hs e
    rw [Nat.zero_add] at h1 h2
    refine ⟨h2, h3, ?_⟩
    obtain ⟨ds, h3⟩ := h3
    have hk : k < as.length := (List.getElem?_eq_some_iff.mp h3).1
    rw [w.kp k h1]
    exact start_get (by omega)
  refine ⟨{
    bs := w.bs
    sub := w.sub
    fr := w.fr
    tb := w.tb
    ns := w.ns
    dom := w.dom
    nf := w.nf
    len := by rw [mask_len, List.length_map]; exact hv
    sh := fun k d e => by
      obtain ⟨h1, h2, h3⟩ := mg (by intro z; cases z) e
      rw [← h3]; exact w.sh k d h1
    ow := fun k ds e => by
      obtain ⟨h1, h2, h3⟩ := mg (by intro z; cases z) e
      rw [← h3]; exact w.ow k ds h1
    owA := fun a ⟨k, ds, e1, e2⟩ => by
      obtain ⟨h1, h2, h3⟩ := mg (by intro z; cases z) e1
      rw [← h3] at e2
      exact w.owA a ⟨k, ds, h1, e2⟩
    dj := fun k l ds es a e1 e2 g1 g2 => by
      obtain ⟨h1, h2, h3⟩ := mg (by intro z; cases z) e1
      obtain ⟨h4, h5, h6⟩ := mg (by intro z; cases z) e2
      rw [← h3] at g1
      rw [← h6] at g2
      exact w.dj k l ds es a h1 h4 g1 g2
    kp := fun j hj => by cases hj }, fun a ⟨k, ds, e1, e2⟩ => ?_, fun a ⟨k, ds, e1, e2⟩ => ?_⟩
  · obtain ⟨h1, ⟨es, h2⟩, h3⟩ := mg (by intro z; cases z) e1
    exact ⟨k, es, h2, e2⟩
  · obtain ⟨h1, h2, h3⟩ := mg (by intro z; cases z) e1
    exact ⟨k, ds, h1, by rw [h3]; exact e2⟩
/-- a def's promise, turned to its body -/
theorem body_go {F : Fn} {cf : CF} {Q : VK} {E : XK} (hN : N.length = F.ns) (hp : F.np ≤ F.ns) (h : spOf K C (F.run cf) vs H Q E) :
    vs.length = F.np ∧ ∃ R : Rg, R.nas = F.nas ∧ tS K R C (fun cls d _ H => E cls d H) (execs cf R.β F.body) { nx := fun _ H' => Q .non H', rt := Q } (start N vs) H := by
  obtain ⟨Hs, as, w, h⟩ := h
  have hv : vs.length = as.length := by have := w.len; rwa [List.length_map] at this
  unfold Fn.run at h
  by_cases c : as.length = F.np
  · rw [if_pos c] at h
    refine ⟨by omega, bodyR N F.nas vs as (as ++ List.replicate (F.ns - F.np) .un) Hs H, rfl, Hs, _, body_wd w (by omega), ?_⟩
    simp only at h
    show Ok (execs cf (as ++ List.replicate (F.ns - F.np) .un) F.body (as ++ List.replicate (F.ns - F.np) .un)) _ _
    generalize as ++ List.replicate (F.ns - F.np) SV.un = δ0 at h ⊢
    cases q : execs cf δ0 F.body δ0 with
    | bad n => rw [q] at h; exact (show False from h).elim
    | exn c d δ' =>
      rw [q] at h
      intro σ' Hs' H' a v w' x1 x2
      obtain ⟨m1, m2, _⟩ := mask_wd hv w'
      exact h a v Hs' H' m1 x1 x2 m2
    | ok o δ' =>
      rw [q] at h
      cases o with
      | nx =>
        intro σ' Hs' H' w'
        obtain ⟨m1, m2, _⟩ := mask_wd hv w'
        exact h.2 .non Hs' H' m1 .non m2
      | bk => exact (show False from h).elim
      | ret r =>
        intro v σ' Hs' H' w' rs
        cases r with
        | fz d =>
          obtain ⟨m1, m2, _⟩ := mask_wd hv w'
          exact h.2 v Hs' H' m1 rs m2
        | nw ds =>
          obtain ⟨m1, m2, m3⟩ := mask_wd hv w'
          obtain ⟨a, us, rfl, r1, r2, r3, r4, r5⟩ := rs
          exact h.2 _ Hs' H' m1 ⟨a, us, rfl, r1, r2, r3, fun z => r4 (m3 a z), r5⟩ m2
        | sl i =>
          have rs : σ'[i]? = some (some v) := rs
          unfold back at h
          cases q2 : δ'[i]? with
          | none => simp only [q2] at h
          | some s =>
            cases s with
            | un => simp only [q2] at h
            | sh d =>
              simp only [q2] at h
              obtain ⟨m1, m2, _⟩ := mask_wd hv w'
              obtain ⟨u, h1, h2⟩ := w'.sh i d q2
              rw [rs] at h1; cases h1
              exact h.2 v Hs' H' m1 h2 m2
            | ow ds =>
              simp only [q2] at h
              obtain ⟨a, us, h1, h2, h3, h4⟩ := w'.ow i ds q2
              rw [rs] at h1; cases h1
              obtain ⟨m1, m2, m3⟩ := mask_wd hv (w'.drop i)
              refine h.2 _ Hs' H' m1 ⟨a, us, rfl, h2, h3, h4, fun z => ?_, w'.owA a ⟨i, ds, q2, rs⟩⟩ m2
              obtain ⟨j, es, e1, e2⟩ := m3 a z
              rcases get_set e1 with ⟨_, z⟩ | ⟨n, z⟩
              · cases z
              · exact n (w'.dj i j ds es a q2 z rs e2)
  · rw [if_neg c] at h
    exact (show False from h).elim
end
end Rf
set_option linter.all false
set_option maxRecDepth 100000
set_option maxHeartbeats 1000000
set_option Elab.async false
/-! Rf: the checker: own syntax against the program's. -/
namespace Rf
open PySem
structure Ct where
  N : List Str
  sc : Scope
  fns : List Str
  cls : List Str
  gis : List (Str × Int)
  free : List Str
  fnl : List Str
  kws : List (Nat × List Nat × List Str)
  lam : Bool := false
  rfa : Option Nat := none
  raa : Bool := false
  rg : Bool := false
def Sts.len : Sts → Nat
  | .nil => 0
  | .cons _ r => r.len + 1
  | .blk _ b r => b.len + r.len
def Ct.gl (c : Ct) (x : Str) : Bool := decide (c.sc.names.lookup x = some .globalImplicit) && !decide (x = ("__debug__" : Str))
def Ct.bi (c : Ct) (x : Str) : Bool := c.gl x && decide (x ∈ c.free) && !decide (x = ("__name__" : Str))
def Ct.vis (c : Ct) (x : Str) : Bool := (match c.sc.names.lookup x with | some .local => true | some .cell => true | some .free => true | _ => false) && !decide (x = ("__debug__" : Str)) && !decide (x = ("__classdict__" : Str))
def Ct.loc (c : Ct) (x : Str) : Bool := match c.sc.names.lookup x with | some .local => true | some .cell => decide (x ∈ c.fnl) | _ => false
def Ct.lcl (c : Ct) (x : Str) : Bool := decide (c.sc.names.lookup x = some .local)
def Ct.blk (c : Ct) (scope : Scope) : Ct := { c with sc := L2.relS scope c.sc, fnl := (scope.names.filter fun y => scope.names.lookup y.1 == some .cell).map (·.1), lam := false }
/-- a lambda's body -/
def Ct.lamC (c : Ct) (scope : Scope) : Ct := { c with sc := scope, fnl := [], lam := false, rfa := none }
def words16 : List (Str × Str) := [("InvalidBallots", "ballots"), ("InvalidRanking", "ranking"), ("InvalidAxis", "axis"), ("InvalidRow", "row"), ("InvalidCounts", "counts"), ("InvalidNumber", "number"), ("InvalidPlaces", "places"), ("InvalidVoter", "voter"),
  ("InvalidThing", "thing"), ("InvalidThings", "things"), ("InvalidNames", "names"), ("InvalidBeats", "beats"), ("InvalidText", "text"), ("InvalidEdit", "edit"), ("Unpeaked", "unpeaked"), ("TooMany", "many")]
def wordOf (x : Str) : Str := (words16.lookup x).getD Str.empty
def noPar : Arguments → Bool
  | ⟨[], [], none, [], [], none, []⟩ => true
  | _ => false
def notStar : Expr → Bool
  | .Starred _ _ => false
  | _ => true
def notSet : Expr → Bool
  | .Set _ _ _ => false
  | _ => true
def notSlice : Expr → Bool
  | .Slice _ _ _ _ => false
  | _ => true
def notComp : Expr → Bool
  | .ListComp _ _ _ _ => false
  | .SetComp _ _ _ _ => false
  | .DictComp _ _ _ _ _ => false
  | _ => true
def notTup : Expr → Bool
  | .Tuple _ _ _ => false
  | _ => true
def notCall0 : Expr → Bool
  | .Call _ [] _ _ => false
  | _ => true
/-- as a test: its value is taken -/
def plainT : Expr → Bool
  | .UnaryOp .Not _ _ => false
  | .BoolOp _ _ _ => false
  | .IfExp _ _ _ _ => false
  | .Compare _ _ _ _ => false
  | _ => true
def BOp.is : BOp → Operator → Bool
  | .add, .Add | .sub, .Sub | .mul, .Mult | .fdiv, .FloorDiv | .mod, .Mod | .pow, .Pow => true
  | _, _ => false
def COp.is : COp → CmpOp → Bool
  | .eq, .Eq | .ne, .NotEq | .lt, .Lt | .le, .LtE | .gt, .Gt | .ge, .GtE | .is_, .Is | .isnt, .IsNot | .in_, .In | .notin, .NotIn => true
  | _, _ => false
def bopIs : Bool → BoolOp → Bool
  | true, .And | false, .Or => true
  | _, _ => false
def Bi.nm : Bi → Str
  | .range1 => "range" | .len => "len" | .abs => "abs" | .max2 => "max" | .min2 => "min" | .maxL => "max" | .minL => "min" | .sum => "sum" | .sumL => "sum" | .sorted => "sorted" | .toTuple => "tuple" | .int => "int" | .str => "str" | .repr => "repr" | .lenset => "len"
def Bi.ar : Bi → Nat
  | .max2 | .min2 => 2
  | .sumL | .lenset => 0
  | _ => 1
def Mt.nm : Mt → Str
  | .index => "index" | .count => "count" | .bitlen => "bit_length" | .join => "join" | .split => "split" | .endswith => "endswith"
def chTys (c : Ct) : List Ty → List Expr → Bool
  | [], [] => true
  | t :: ts, .Name x _ :: es => decide (x = Str.ofString t.name) && c.bi x && chTys c ts es
  | _, _ => false
def chNames (c : Ct) : List Nat → List Expr → Bool
  | [], [] => true
  | i :: is, .Name x _ :: es => decide (c.N[i]? = some x) && c.loc x && chNames c is es
  | _, _ => false
def chTg (c : Ct) : Tg → Expr → Bool
  | .nm i, .Name x _ => decide (c.N[i]? = some x) && c.loc x
  | .tp is, .Tuple es _ _ => chNames c is es
  | _, _ => false
def ownOf (N : List Str) (scope : Scope) : List (Str × Nat) := (scope.names.filter fun y => decide (y.2 = .local) || decide (y.2 = .cell)).filterMap fun y => (N.findIdx? fun z => decide (z = y.1)).map fun i => (y.1, i)
/-- a comprehension's scope: its own names are the target's slots -/
def chScope (c : Ct) (scope : Scope) (tg : Tg) : Bool := L2.blkC c.N c.sc scope (ownOf c.N scope) && ((ownOf c.N scope).map (·.2)).all (fun j => decide (j ∈ tg.slots)) && tg.slots.all (fun j => decide (j ∈ (ownOf c.N scope).map (·.2)))
mutual
def chE (c : Ct) : Ex → Expr → Bool
  | .var i, .Name x _ => decide (c.N[i]? = some x) && c.vis x
  | .cst g d, .Name x _ => (match d with | .int i => decide (c.gis[g]? = some (x, i)) && c.gl x | _ => false)
  | .int i, .Constant (.int j) _ _ => decide (i = j)
  | .str x, .Constant (.str y) _ _ => decide (x = y)
  | .bl b, .Constant (.bool b') _ _ => decide (b = b')
  | .non, .Constant .none _ _ => true
  | .bin op a b, .BinOp a' op' b' _ => op.is op' && chE c a a' && chE c b b'
  | .neg a, .UnaryOp .USub a' _ => chE c a a'
  | .not a, .UnaryOp .Not a' _ => chE c a a'
  | .cmp op a b, .Compare a' [op'] [b'] _ => op.is op' && notSet b' && chE c a a' && chE c b b'
  | .chain o1 o2 a b d, .Compare a' [o1', o2'] [b', d'] _ => o1.is o1' && o2.is o2' && notSet d' && chE c a a' && chE c b b' && chE c d d'
  | .bop k es, .BoolOp op es' _ => bopIs k op && chB c es es'
  | .ite d a b, .IfExp d' a' b' _ => chE c d d' && chE c a a' && chE c b b'
  | .lst es, .List es' _ => decide (es.len ≤ lim) && chL c es es'
  | .tup es, .Tuple es' _ _ => decide (es.len ≤ lim) && chL c es es'
  | .idx a i, .Subscript a' i' _ => notSlice i' && chE c a a' && chE c i i'
  | .slc a lo hi, .Subscript a' (.Slice lo' hi' none _) _ => chE c a a' && chO c lo lo' && chO c hi hi'
  | .rev a, .Subscript a' (.Slice none none (some (.UnaryOp .USub (.Constant (.int j) _ _) _)) _) _ => decide (j = 1) && chE c a a'
  | .comp tg it cs e, .ListComp e' [⟨tg', it', cs', as⟩] scope _ => decide (as = 0) && notSet it' && chScope c scope tg && chIt c it tg' it' && chTg (c.blk scope) tg tg' && chC (c.blk scope) cs cs' && chE (c.blk scope) e e'
  | .call f kw es, .Call (.Name x _) es' [] _ => decide (kw = []) && decide (c.fns[f]? = some x) && c.gl x && chA c es es'
  | .call f kw es, .Call (.Name x _) [] (k :: ks) _ => decide ((f, kw, (k :: ks).map fun z => z.arg.getD Str.empty) ∈ c.kws) && decide ((k :: ks).map (·.arg) = ((k :: ks).map fun z => z.arg.getD Str.empty).map some) && decide (c.fns[f]? = some x) && c.gl x && chK c es (k :: ks)
  | .bi b es, .Call (.Name x _) es' [] _ => decide (x = b.nm) && c.bi x && (match b with
    | .sumL => (match es, es' with
      | .cons a .nil, [a', .List [] _] => notStar a' && chE c a a'
      | _, _ => false)
    | .lenset => (match es, es' with
      | .cons a .nil, [.Call (.Name y _) [a'] [] _] => decide (y = ("set" : Str)) && c.bi y && notStar a' && chE c a a'
      | _, _ => false)
    | b => decide (es.len = b.ar) && chL c es es')
  | .mt m o es, .Call (.Attribute o' x ap) es' [] cp => decide (x = m.nm) && notCall0 o' && decide (ap.endLine = cp.line) && chE c o o' && (match m with
    | .index | .count => (match es, es' with
      | .cons a .nil, [a'] => notStar a' && chE c a a'
      | _, _ => false)
    | .bitlen => (match es, es' with
      | .nil, [] => true
      | _, _ => false)
    | _ => false)
  | .isi ts e, .Call (.Name x _) [e', t'] [] _ => decide (x = ("isinstance" : Str)) && c.bi x && notStar e' && chE c e e' && (match t' with
    | .Name y _ => (match ts with
      | [t] => decide (y = Str.ofString t.name) && c.bi y
      | _ => false)
    | .Tuple es _ _ => decide (ts.length ≤ lim) && chTys c ts es
    | _ => false)
  | .lof it, .Call (.Name x _) [.Call (.Name y _) es' [] _] [] _ => decide (x = ("list" : Str)) && c.bi x && decide (y = ("range" : Str)) && c.bi y && (match it, es' with
    | .rng1 a, [a'] => notStar a' && chE c a a'
    | .rng2 a b, [a', b'] => notStar a' && notStar b' && chE c a a' && chE c b b'
    | _, _ => false)
  | .lcp a, .Call (.Name x _) [a'] [] _ => decide (x = ("list" : Str)) && c.bi x && notStar a' && chE c a a'
  | .pop i e, .Call (.Attribute (.Name y _) x ap) [e'] [] cp => decide (x = ("pop" : Str)) && decide (c.N[i]? = some y) && c.vis y && decide (ap.endLine = cp.line) && notStar e' && chE c e e'
  | .dct, .Dict [] [] _ => true
  | .apf o a, .Call (.Attribute o' x ap) [a'] [] cp => decide (x = ("append" : Str)) && notCall0 o' && decide (ap.endLine = cp.line) && notStar a' && chE c o o' && chE c a a'
  | .rfd call word val al ws, .Call (.Name x _) [.Lambda params body scope _, w', v'] [] _ => decide (x = ("_law_refused" : Str)) && c.gl x && c.lam && decide (c.rfa = some al) && decide (ws = c.cls.map wordOf) && noPar params && LamX.lamSB c.sc scope && notStar w' && notStar v' && chE c word w' && chE c val v' && chE (c.lamC scope) call body
  | .rfa calls word val al ws, .Call (.Name x _) [.List es _, w', v'] [] _ => decide (x = ("_law_all_refused" : Str)) && c.gl x && c.lam && decide (c.rfa = some al) && c.raa && decide (ws = c.cls.map wordOf) && decide ((exsL calls).length ≤ sizeLine) && notStar w' && notStar v' && chE c word w' && chE c val v' && chF c calls es
  | .tmp x, e => notComp e && chE c x e
  | _, _ => false
/-- lambdas in a list -/
def chF (c : Ct) : Exs → List Expr → Bool
  | .nil, [] => true
  | .cons call r, .Lambda params body scope _ :: es => noPar params && LamX.lamSB c.sc scope && (scope.names.all fun y => !decide (y.2 = .free) || decide (y.1 ∈ c.fnl)) && chE (c.lamC scope) call body && chF c r es
  | _, _ => false
/-- a plain list -/
def chL (c : Ct) : Exs → List Expr → Bool
  | .nil, [] => true
  | .cons x xs, e :: es => notStar e && chE c x e && chL c xs es
  | _, _ => false
/-- the arguments of a def -/
def chA (c : Ct) : Exs → List Expr → Bool
  | .nil, [] => true
  | .cons (.ioa i) xs, .Name x _ :: es => decide (c.N[i]? = some x) && c.vis x && chA c xs es
  | .cons (.ioa _) _, _ => false
  | .cons x xs, e :: es => notStar e && chE c x e && chA c xs es
  | _, _ => false
/-- keywords' values -/
def chK (c : Ct) : Exs → List Keyword → Bool
  | .nil, [] => true
  | .cons (.ioa i) xs, ⟨_, .Name x _, _⟩ :: es => decide (c.N[i]? = some x) && c.vis x && chK c xs es
  | .cons (.ioa _) _, _ => false
  | .cons x xs, ⟨_, e, _⟩ :: es => chE c x e && chK c xs es
  | _, _ => false
/-- and, or: not empty -/
def chB (c : Ct) : Exs → List Expr → Bool
  | .cons x .nil, [e] => chE c x e
  | .cons x xs, e :: e' :: es => chE c x e && chB c xs (e' :: es)
  | _, _ => false
/-- a comprehension's conditions -/
def chC (c : Ct) : Exs → List Expr → Bool
  | .nil, [] => true
  | .cons x .nil, [e] => chE c x e
  | _, _ => false
def chO (c : Ct) : OEx → Option Expr → Bool
  | .no, none => true
  | .so x, some e => chE c x e
  | _, _ => false
/-- what is walked; tg: the target -/
def chIt (c : Ct) : It → Expr → Expr → Bool
  | .rng1 a, _, .Call (.Name x _) [a'] [] _ => decide (x = ("range" : Str)) && c.bi x && notStar a' && chE c a a'
  | .rng2 a b, _, .Call (.Name x _) [a', b'] [] _ => decide (x = ("range" : Str)) && c.bi x && notStar a' && notStar b' && chE c a a' && chE c b b'
  | .seq e, _, e' => chE c e e'
  | .enum a, .Tuple _ _ _, .Call (.Name x _) [a'] [] _ => decide (x = ("enumerate" : Str)) && c.bi x && notStar a' && chE c a a'
  | .zip a b, .Tuple _ _ _, .Call (.Name x _) [a', b'] [] _ => decide (x = ("zip" : Str)) && c.bi x && notStar a' && notStar b' && chE c a a' && chE c b b'
  | _, _, _ => false
end
/-- does a comprehension swap its store? -/
def swComp (c : Ct) (y : Str) (p' : Pos) : Expr → Bool
  | .ListComp _ _ scope p => c.sc.names.lookup y == some .local && p'.line == p.line && !(scope.names.any fun z => z.1 == y && (z.2 == .local || z.2 == .cell))
  | _ => false
def parOk (c : Ct) (is : List Nat) (ts : List Expr) : Bool := is.all fun _ => true
mutual
def chS (c : Ct) (nas : List Nat) : St → Stmt → Bool
  | .ex x, .Expr e _ => notComp e && chE c x e
  | .asg _ i x, .Assign [.Name y p'] e _ => decide (c.N[i]? = some y) && c.loc y && !decide (i ∈ nas) && chE c x e && (notComp e || decide (c.sc.kind = .function))
  | .asgT is x, .Assign [.Tuple es k p] e _ => chNames c is es && is.all (fun i => !decide (i ∈ nas)) && notTup e && notComp e && chE c x e
  | .par _ is xs, .Assign [.Tuple ts _ _] (.Tuple es _ _) _ => is.all (fun i => !decide (i ∈ nas)) && decide (is.length ≤ lim) && chL c xs es && decide (is.Nodup) && chNames c is ts && decide (es.length = ts.length) && decide (c.sc.kind = .function) && (es.all (foldedForSure 8) || (match is, ts, es with
    | [_, _], [.Name x px, .Name y py], [a, b] => (decide (x ≠ y) && !([a, b].all (foldedForSure 8)) && !([a, b].all (constantsAlone 8)) && decide (py.line = px.line) && c.lcl x && c.lcl y) || !(c.lcl x && c.lcl y)
    | [_, _, _], [.Name x px, .Name y py, .Name z pz], [a, b, d] => (decide (x ≠ y ∧ x ≠ z ∧ y ≠ z) && !([a, b, d].all (foldedForSure 8)) && !([a, b, d].all (constantsAlone 8)) && decide (py.line = px.line ∧ pz.line = px.line) && c.lcl x && c.lcl y && c.lcl z) || !(c.lcl x && c.lcl y && c.lcl z)
    | _, _, _ => !(decide (ts.length = 2) || decide (ts.length = 3))))
  | .setI i k x, .Assign [.Subscript (.Name y _) k' _] e _ => decide (c.N[i]? = some y) && c.vis y && notSlice k' && notComp e && chE c x e && chE c k k'
  | .app i x, .Expr (.Call (.Attribute (.Name y _) m ap) [e] [] cp) _ => decide (m = ("append" : Str)) && decide (c.N[i]? = some y) && c.vis y && decide (ap.endLine = cp.line) && notStar e && chE c x e
  | .rem i x, .Expr (.Call (.Attribute (.Name y _) m ap) [e] [] cp) _ => decide (m = ("remove" : Str)) && decide (c.N[i]? = some y) && c.vis y && decide (ap.endLine = cp.line) && notStar e && chE c x e
  | .ite d a b, .If d' a' b' _ => chE c d d' && chSs c nas a a' && chSs c nas b b'
  | .for_ tg it b, .For tg' it' b' [] _ => tg.slots.all (fun i => !decide (i ∈ nas)) && notSet it' && chIt c it tg' it' && chTg c tg tg' && chSs { c with rg := false } nas b b'
  | .whl d b, .While d' b' [] _ => chE c d d' && chSs c nas b b'
  | .ret x, .Return (some e) _ => chE c x e
  | .ret .non, .Return none _ => true
  | .rse k x, .Raise (some (.Call (.Name y _) [e] [] _)) none _ => decide (c.cls[k]? = some y) && c.gl y && notStar e && chE c x e
  | .scr keep p x, .Expr (.Call (.Attribute o m ap) [e] [] cp) _ => decide (m = ("append" : Str)) && c.rg && keep.all (fun i => decide (i ∈ nas)) && notCall0 o && decide (ap.endLine = cp.line) && notStar e && chE c p o && chE c x e
  | .brk, .Break _ => true
  | .pas, .Pass _ => true
  | _, _ => false
def chSs (c : Ct) (nas : List Nat) : Sts → List Stmt → Bool
  | .nil, [] => true
  | .cons s r, t :: ts => chS c nas s t && chSs c nas r ts
  | .blk nas' b r, st => nas.all (fun i => decide (i ∈ nas')) && chSs { c with rg := true } nas' b (st.take b.len) && chSs c nas r (st.drop b.len)
  | _, _ => false
end
end Rf
set_option linter.all false
set_option maxRecDepth 100000
set_option maxHeartbeats 2000000
set_option Elab.async false
/-! Rf: the checker is sound, expressions. -/
namespace Rf
open PySem PySem.Spec PyProof.Rows L2
/-- where the lambdas of a def's body are kept -/
def TabX (X : Cx) : Prop := ∃ c P, X.env.code = .ref c ∧ LamX.TabB X.base X.mg c P ∧ (P, X.env.qual ++ "<lambda>") ∈ tbl X.K ∧ ∀ p ∈ tbl X.K, p.1 = P → p.2 = X.env.qual ++ "<lambda>"
structure CtOk (c : Ct) (X : Cx) (C : Nat → Addr) (W : WX) (cf : CF) : Prop where
  N : X.N = c.N
  nd : X.N.Nodup
  sc : X.env.scope = c.sc
  calm : X.calm = true
  lvl : ∃ k, Room k X.A ∧ (∀ (i : Nat) (x : Str), c.fns[i]? = some x → ∃ (fa : Addr) (fd : FuncData) (ps : List Str), X.mg x = some (.ref fa) ∧ FnG X.prog X.w X.K X.mg X.base (L2.CX X.prog X.w) k fa fd ps (spOf X.K C (cf i)) ∧ PySem.W.keepIn X.K (.ref fa) = true ∧ Binds X.K fd ps [] ∧ ∀ kw ks, (i, kw, ks) ∈ c.kws → KwB X.K fd ps kw ks) ∧ (c.lam = true → Room (k + 4) X.A) ∧
    ∀ al, c.rfa = some al → ∃ fr, X.mg "_law_refused" = some (.ref fr) ∧ PySem.W.keepIn X.K (.ref fr) = true ∧ RfP X.prog X.w X.K X.mg X.base k C cf al (c.cls.map wordOf) fr ∧
      (c.raa = true → ∃ fa, X.mg "_law_all_refused" = some (.ref fa) ∧ PySem.W.keepIn X.K (.ref fa) = true ∧ ∀ base2, Bel X.base base2 → RaP X.prog X.w X.K X.mg base2 k C cf al (c.cls.map wordOf) fa)
  cl : ∀ (i : Nat) (x : Str), c.cls[i]? = some x → X.mg x = some (.ref (C i)) ∧ ∃ fI, IniOk X.prog X.K X.mg (C i) fI
  gi : ∀ (g : Nat) (x : Str) (i : Int), c.gis[g]? = some (x, i) → ∃ t, X.mg x = some (.int i t)
  free : ∀ x, x ∈ c.free → X.mg x = none
  tk : Takes X W
  gd : NoGd X.A
  fnl : ∀ x, x ∈ c.fnl → X.fn x = true
  tab : c.lam = true → TabX X
theorem nS {e : Expr} (h : notStar e = true) : NotStar e := fun v p z => by subst z; cases h
theorem nSt {e : Expr} (h : notSet e = true) : ∀ es k p, e ≠ .Set es k p := fun _ _ _ z => by subst z; cases h
theorem nSl {e : Expr} (h : notSlice e = true) : PlainIx e := fun o i => by
  cases e <;> first | rfl | (cases h; done)
theorem nT {e : Expr} (h : plainT e = true) {env : Env} : ∀ whole, isTrue e env whole = (do let v ← whole; standAt e.pos; holding [v] (truthy v)) := fun whole => by
  cases e with
  | UnaryOp op a p => cases op <;> first | rfl | (cases h; done)
  | _ => first | rfl | (cases h; done)
theorem nFold {e : Expr} (h : notSet e = true) {env : Env} : ∀ x, foldedSetIterable e env x = pure x := fun x => by
  cases e <;> first | rfl | (cases h; done)
theorem nAb {e : Expr} (h : notCall0 e = true) {attr : Str} {env : Env} : attributeBase e attr env (eval e env) = eval e env := by
  cases e with
  | Call f args kws p =>
    cases args with
    | nil => cases h
    | cons a as => cases f <;> rfl
  | _ => rfl
theorem bop_is {op : BOp} {o : Operator} (h : op.is o = true) : o = op.py := by cases op <;> cases o <;> first | rfl | (cases h; done)
theorem cop_is {op : COp} {o : CmpOp} (h : op.is o = true) : o = op.py := by cases op <;> cases o <;> first | rfl | (cases h; done)
theorem bopIs_is {k : Bool} {o : BoolOp} (h : bopIs k o = true) : o = bopy k := by cases k <;> cases o <;> first | rfl | (cases h; done)
section
variable {c : Ct} {X : Cx} {C : Nat → Addr} {W : WX} {cf : CF}
theorem CtOk.gl (k : CtOk c X C W cf) {x : Str} (h : c.gl x = true) : Gl X x ∧ (x == ("__debug__" : Str)) = false := by
  obtain ⟨h1, h2⟩ := ba h
  refine ⟨?_, ?_⟩
  · show X.env.scope.names.lookup x = _
    rw [k.sc]; exact of_decide_eq_true h1
  · have := of_decide_eq_false (by simpa using h2 : decide (x = ("__debug__" : Str)) = false)
    simpa using this
theorem CtOk.bi (k : CtOk c X C W cf) {x : Str} (h : c.bi x = true) : Gl X x ∧ X.mg x = none ∧ x ≠ "__name__" ∧ (x == ("__debug__" : Str)) = false := by
  obtain ⟨h1, h2⟩ := ba h
  obtain ⟨h3, h4⟩ := ba h1
  obtain ⟨h5, h6⟩ := k.gl h3
  exact ⟨h5, k.free x (of_decide_eq_true h4), by simpa using h2, h6⟩
theorem CtOk.vis (k : CtOk c X C W cf) {x : Str} (h : c.vis x = true) : Vis X.env.scope x ∧ (x == ("__debug__" : Str)) = false ∧ (x == ("__classdict__" : Str)) = false := by
  obtain ⟨h1, h2⟩ := ba h
  obtain ⟨h3, h4⟩ := ba h1
  refine ⟨?_, by simpa using h4, by simpa using h2⟩
  rw [k.sc]
  unfold Vis
  cases q : c.sc.names.lookup x with
  | none => rw [q] at h3; cases h3
  | some n => rw [q] at h3; cases n <;> first | exact .inl rfl | exact .inr (.inl rfl) | exact .inr (.inr rfl) | (cases h3; done)
theorem CtOk.loc (k : CtOk c X C W cf) {x : Str} (h : c.loc x = true) : L2.Loc X.env.scope x ∧ (X.fn x = true ∨ X.env.scope.names.lookup x = some .local) := by
  rw [k.sc]
  unfold Ct.loc at h
  unfold L2.Loc
  cases q : c.sc.names.lookup x with
  | none => rw [q] at h; cases h
  | some n =>
    rw [q] at h
    cases n with
    | «local» => exact ⟨.inl rfl, .inr rfl⟩
    | cell => exact ⟨.inr rfl, .inl (k.fnl x (of_decide_eq_true h))⟩
    | _ => cases h
theorem CtOk.slot (k : CtOk c X C W cf) {i : Nat} {x : Str} (h : decide (c.N[i]? = some x) = true) : X.N[i]? = some x := by rw [k.N]; exact of_decide_eq_true h
theorem CtOk.blk (k : CtOk c X C W cf) (scope : Scope) (s : Shared) (H : Hp) (L : Addr) (cl : List (Str × Addr)) (fp : List Addr) : CtOk (c.blk scope) (X.blk s H scope (compEnvC scope cl L X.env) fp) C WF cf where
  N := k.N
  nd := k.nd
  sc := by
    show relS scope X.env.scope = relS scope c.sc
    rw [k.sc]
  calm := k.calm
  lvl := let ⟨n, r, fs, _, rf⟩ := k.lvl; ⟨n, r, fs, (fun (z : false = true) => nomatch z), rf⟩
  cl := k.cl
  gi := k.gi
  free := k.free
  tk := takes0
  gd := k.gd
  tab := fun h => by cases h
  fnl := fun x hx => by
    have hx : x ∈ (scope.names.filter fun y => scope.names.lookup y.1 == some .cell).map (·.1) := hx
    show (scope.names.lookup x == some .cell) = true
    obtain ⟨y, h1, rfl⟩ := List.mem_map.mp hx
    exact (List.mem_filter.mp h1).2
theorem CtOk.withRg (k : CtOk c X C W cf) (b : Bool) : CtOk { c with rg := b } X C W cf where
  N := k.N
  nd := k.nd
  sc := k.sc
  calm := k.calm
  lvl := k.lvl
  cl := k.cl
  gi := k.gi
  free := k.free
  tk := k.tk
  gd := k.gd
  fnl := k.fnl
  tab := k.tab
theorem CtOk.lamC (k : CtOk c X C W cf) {n : Nat} {A : Around} {outer : List Env} {s : Shared} {H : Hp} {E : XK} {scope : Scope} {f c' : Addr} (hgd : NoGd A) (hr : Room n (A.deeper (LamX.lamEnv X scope s.heap.objs.size f c')))
    (fs : ∀ (i : Nat) (x : Str), c.fns[i]? = some x → ∃ (fa : Addr) (fd : FuncData) (ps : List Str), X.mg x = some (.ref fa) ∧ FnG X.prog X.w X.K X.mg X.base (L2.CX X.prog X.w) n fa fd ps (spOf X.K C (cf i)) ∧ PySem.W.keepIn X.K (.ref fa) = true ∧ Binds X.K fd ps [] ∧ ∀ kw ks, (i, kw, ks) ∈ c.kws → KwB X.K fd ps kw ks) :
    CtOk (c.lamC scope) (LamX.lamCx X A outer s H E scope f c') C (fun cls d _ H => E cls d H) cf where
  N := k.N
  nd := k.nd
  sc := rfl
  calm := rfl
  lvl := ⟨n, hr, fs, (fun (z : false = true) => nomatch z), fun al (h : none = some al) => nomatch h⟩
  cl := k.cl
  gi := k.gi
  free := k.free
  tk := takes_of rfl rfl rfl rfl
  gd := hgd
  fnl := fun x hx => by cases hx
  tab := fun h => by cases h
theorem noPar_ok {p : Arguments} (h : noPar p = true) : p = ⟨[], [], none, [], [], none, []⟩ := by
  unfold noPar at h
  split at h
  · rfl
  · cases h
theorem tys_ok (k : CtOk c X C W cf) : ∀ {ts : List Ty} {es : List Expr}, chTys c ts es = true → PA X es (tTys ts)
  | [], [], _ => tys_nil
  | [], _ :: _, h => by simp [chTys] at h
  | t :: ts, [], h => by simp [chTys] at h
  | t :: ts, e :: es, h => by
    cases e with
    | Name x p =>
      unfold chTys at h
      obtain ⟨h1, h2⟩ := ba h
      obtain ⟨h3, h4⟩ := ba h1
      obtain ⟨g1, g2, _, _⟩ := k.bi h4
      exact tys_cons (fun _ _ z => by cases z) (pe_ty (of_decide_eq_true h3) g1 g2) (tys_ok k h2)
    | _ => simp [chTys] at h
theorem names_ok (k : CtOk c X C W cf) : ∀ {is : List Nat} {es : List Expr}, chNames c is es = true → PGs X es (gNames is) ∧ (assignEach es X.env).length = is.length ∧ (assignEach es X.env).findIdx? (·.1) = none
  | [], [], _ => ⟨pgs_nil, rfl, rfl⟩
  | [], _ :: _, h => by simp [chNames] at h
  | i :: is, [], h => by simp [chNames] at h
  | i :: is, e :: es, h => by
    cases e with
    | Name x p =>
      unfold chNames at h
      obtain ⟨h1, h2⟩ := ba h
      obtain ⟨h3, h4⟩ := ba h1
      obtain ⟨g1, g2⟩ := k.loc h4
      obtain ⟨n1, n2, n3⟩ := names_ok k h2
      refine ⟨pgs_cons (pg_name k.nd (k.slot h3) g1 g2) n1 rfl, ?_, ?_⟩
      · show (assignEach es X.env).length + 1 = _
        rw [n2]; rfl
      · show ((false, assign (.Name x p) X.env) :: assignEach es X.env).findIdx? (·.1) = none
        rw [List.findIdx?_cons, if_neg (by simp), n3]; rfl
    | _ => simp [chNames] at h
theorem tg_ok (k : CtOk c X C W cf) {tg : Tg} {e : Expr} (h : chTg c tg e = true) : PG X e (tg.g X.K) := by
  cases tg with
  | nm i =>
    cases e with
    | Name x p =>
      unfold chTg at h
      obtain ⟨h3, h4⟩ := ba h
      obtain ⟨g1, g2⟩ := k.loc h4
      exact pg_name k.nd (k.slot h3) g1 g2
    | _ => simp [chTg] at h
  | tp is =>
    cases e with
    | Tuple es n p =>
      unfold chTg at h
      obtain ⟨n1, n2, n3⟩ := names_ok k h
      exact pg_or (pg_tup k.calm n1 n2 n3) (pg_unl k.calm n1 n2 n3)
    | _ => simp [chTg] at h
/-- what is to be shown of an expression -/
def EOk (cf : CF) (x : Ex) (e : Expr) (c : Ct) : Prop := ∀ (X : Cx) (C : Nat → Addr) (W : WX), CtOk c X C W cf → ∀ R : Rg, PE X e (tE X.K R C W (ev cf x)) ∧ PT X e (tT X.K R C W (ev cf x >>= truM))
theorem EOk.of {x : Ex} {e : Expr} (hp : plainT e = true) (h : ∀ (X : Cx) (C : Nat → Addr) (W : WX), CtOk c X C W cf → ∀ R : Rg, PE X e (tE X.K R C W (ev cf x))) : EOk cf x e c := fun X C W k R => ⟨h X C W k R, pt_of (h X C W k R) (nT hp)⟩
theorem hu_of (k : CtOk c X C W cf) : X.A.units + 66 < cLine := by
  obtain ⟨n, r, _⟩ := k.lvl
  have := r.un
  omega
theorem hpl_all {env : Env} {pos : Pos} : ∀ {es : List Expr}, (∀ e ∈ es, notStar e = true) → (backTo pos (starEach es env)).any (·.1) = false
  | [], _ => rfl
  | e :: es, h => by
    rw [star_of (nS (h e List.mem_cons_self))]
    show (false || (backTo pos (starEach es env)).any (·.1)) = false
    rw [hpl_all fun e' he => h e' (List.mem_cons_of_mem _ he)]; rfl
theorem chL_star : ∀ {xs : Exs} {es : List Expr}, chL c xs es = true → ∀ e ∈ es, notStar e = true
  | .nil, [], _, e, he => by cases he
  | .nil, _ :: _, h, _, _ => by simp [chL] at h
  | .cons _ _, [], h, _, _ => by simp [chL] at h
  | .cons x xs, e :: es, h, e', he => by
    unfold chL at h
    obtain ⟨h1, h2⟩ := ba h
    obtain ⟨h3, h4⟩ := ba h1
    rcases List.mem_cons.mp he with rfl | he
    · exact h3
    · exact chL_star h2 e' he
theorem chL_len : ∀ {xs : Exs} {es : List Expr}, chL c xs es = true → es.length = xs.len
  | .nil, [], _ => rfl
  | .nil, _ :: _, h => by simp [chL] at h
  | .cons _ _, [], h => by simp [chL] at h
  | .cons x xs, e :: es, h => by
    unfold chL at h
    obtain ⟨h1, h2⟩ := ba h
    show es.length + 1 = xs.len + 1
    rw [chL_len h2]
theorem chA_star : ∀ {xs : Exs} {es : List Expr}, chA c xs es = true → ∀ e ∈ es, notStar e = true
  | .nil, [], _, e, he => by cases he
  | .nil, _ :: _, h, _, _ => by simp [chA] at h
  | .cons x _, [], h, _, _ => by cases x <;> simp [chA] at h
  | .cons x xs, e :: es, h, e', he => by
    cases x with
    | ioa i =>
      cases e with
      | Name y p =>
        unfold chA at h
        obtain ⟨h1, h2⟩ := ba h
        rcases List.mem_cons.mp he with rfl | he
        · rfl
        · exact chA_star h2 e' he
      | _ => simp [chA] at h
    | _ =>
      unfold chA at h
      · obtain ⟨h1, h2⟩ := ba h
        obtain ⟨h3, h4⟩ := ba h1
        rcases List.mem_cons.mp he with rfl | he
        · exact h3
        · exact chA_star h2 e' he
      all_goals (first | (intros; simp_all; done) | (intro; intros; contradiction) | skip)
end
end Rf
set_option linter.all false
set_option maxRecDepth 100000
set_option maxHeartbeats 8000000
set_option Elab.async false
/-! Rf: the checker is sound, all expressions. -/
namespace Rf
open PySem PySem.Spec PyProof.Rows L2
variable {cf : CF}
def LOk (cf : CF) (xs : Exs) (es : List Expr) (c : Ct) : Prop := ∀ (X : Cx) (C : Nat → Addr) (W : WX), CtOk c X C W cf → ∀ R : Rg, PA X es (tAD X.K R C W (evD cf xs)) ∧ PA X es (tAR X.K R C W (evR cf xs)) ∧ PA X es (tAP X.K R C W (evP cf xs))
def AOk (cf : CF) (xs : Exs) (es : List Expr) (c : Ct) : Prop := ∀ (X : Cx) (C : Nat → Addr) (W : WX), CtOk c X C W cf → ∀ R : Rg, PA X es (tAA X.K R C W (evA cf xs))
def BOk (cf : CF) (xs : Exs) (es : List Expr) (c : Ct) : Prop := ∀ (X : Cx) (C : Nat → Addr) (W : WX), CtOk c X C W cf → ∀ (R : Rg) (k : Bool) (pos : Pos), PE X (.BoolOp (bopy k) es pos) (tE X.K R C W (evB cf k xs)) ∧ PW X (.BoolOp (bopy k) es pos) (tT X.K R C W (evB cf k xs >>= truM))
def COk (cf : CF) (xs : Exs) (es : List Expr) (c : Ct) : Prop := ∀ (X : Cx) (C : Nat → Addr) (W : WX), CtOk c X C W cf → ∀ R : Rg, PTs X es (tT X.K R C W (evC cf xs))
def OOk (cf : CF) (x : OEx) (e : Option Expr) (c : Ct) : Prop := ∀ (X : Cx) (C : Nat → Addr) (W : WX), CtOk c X C W cf → ∀ R : Rg, PO X e (tO X.K R C W (evO cf x))
def IOk (cf : CF) (it : Rf.It) (tg e : Expr) (c : Ct) : Prop := ∀ (X : Cx) (C : Nat → Addr) (W : WX), CtOk c X C W cf → ∀ R : Rg, PI X tg e (tI X.K R C W (evI cf it))
def FnsAt (c : Ct) (X : Cx) (C : Nat → Addr) (cf : CF) (n : Nat) : Prop := ∀ (i : Nat) (x : Str), c.fns[i]? = some x → ∃ (fa : Addr) (fd : FuncData) (ps : List Str), X.mg x = some (.ref fa) ∧ FnG X.prog X.w X.K X.mg X.base (L2.CX X.prog X.w) n fa fd ps (spOf X.K C (cf i)) ∧ PySem.W.keepIn X.K (.ref fa) = true ∧ Binds X.K fd ps [] ∧ ∀ kw ks, (i, kw, ks) ∈ c.kws → KwB X.K fd ps kw ks
def FOk (cf : CF) (calls : Exs) (es : List Expr) (c : Ct) : Prop := ∀ (X : Cx) (C : Nat → Addr) (W : WX), CtOk c X C W cf → ∀ n, FnsAt c X C cf n → LamL X C cf n calls es
/-! pieces -/
theorem k_var {c : Ct} {i : Nat} {x : Str} {p : Pos} (h : (decide (c.N[i]? = some x) && c.vis x) = true) : EOk cf (.var i) (.Name x p) c := .of rfl fun X C W k R => by
  obtain ⟨h1, h2⟩ := ba h
  obtain ⟨v1, v2, v3⟩ := k.vis h2
  exact s_var (k.slot h1) v1 v2 v3
theorem k_cst {c : Ct} {g : Nat} {i : Int} {x : Str} {p : Pos} (h : (decide (c.gis[g]? = some (x, i)) && c.gl x) = true) : EOk cf (.cst g (.int i)) (.Name x p) c := .of rfl fun X C W k R => by
  obtain ⟨h1, h2⟩ := ba h
  obtain ⟨t, ht⟩ := k.gi g x i (of_decide_eq_true h1)
  obtain ⟨g1, g2⟩ := k.gl h2
  exact s_con (d := .int i) (by rw [ev]) (pe_glob (v := .int i) g1 ht ⟨t, rfl⟩ g2) fun Hs => .int i
theorem k_con {c : Ct} {x : Ex} {e : Expr} {v : V} {d : D} (hp : plainT e = true) (hf : ev cf x = pure (.fz d)) (h : ∀ X : Cx, PE X e (tC v)) (hd : ∀ (K : Fg) (N : Addr → Prop) (Hs : Hp), Dq K N Hs v d) : EOk cf x e c := .of hp fun X C W k R => s_con hf (h X) fun Hs => hd _ _ _
theorem bi_one {c : Ct} {b : Bi} {x : Str} {a : Expr} {xs : Exs} {p pos : Pos} (hx : x = b.nm) (hb : c.bi x = true) (hs : notStar a = true) (har : b.ar = 1) (hl : LOk cf xs [a] c) : EOk cf (.bi b xs) (.Call (.Name x p) [a] [] pos) c := .of rfl fun X C W k R => by
  subst hx
  obtain ⟨g1, g2, g3, g4⟩ := k.bi hb
  have hu := hu_of k
  obtain ⟨_, hr, _⟩ := hl X C W k R
  cases b with
  | range1 => exact s_biT (r := bi_range1) rfl b_range1 g1 g2 boot_range g3 g4 (nS hs) rfl hr
  | len => exact s_biB (r := bi_len) rfl b_len g1 g2 boot_len g3 g4 (nS hs) rfl hr
  | abs => exact s_biB (r := bi_abs) rfl b_abs g1 g2 boot_abs g3 g4 (nS hs) rfl hr
  | maxL => exact s_biB (r := bi_maxL) rfl (b_maxL k.calm hu) g1 g2 boot_max g3 g4 (nS hs) rfl hr
  | minL => exact s_biB (r := bi_minL) rfl (b_minL k.calm hu) g1 g2 boot_min g3 g4 (nS hs) rfl hr
  | sum => exact s_biB (r := bi_sum) rfl (b_sum k.calm) g1 g2 boot_sum g3 g4 (nS hs) rfl hr
  | sorted => exact s_biB (r := bi_sorted) rfl (b_sorted hu) g1 g2 boot_sorted g3 g4 (nS hs) rfl hr
  | toTuple => exact s_biT (r := bi_toTuple) rfl b_toTuple g1 g2 boot_tuple g3 g4 (nS hs) rfl hr
  | int => exact s_biT (r := bi_int) rfl b_int g1 g2 boot_int g3 g4 (nS hs) rfl hr
  | repr => exact s_biB (r := bi_repr) rfl (b_repr k.gd hu) g1 g2 boot_repr g3 g4 (nS hs) rfl hr
  | str => exact s_biT (r := bi_str) rfl b_str g1 g2 boot_str g3 g4 (nS hs) rfl hr
  | _ => cases har
theorem bi_two {c : Ct} {b : Bi} {x : Str} {a a' : Expr} {xs : Exs} {p pos : Pos} (hx : x = b.nm) (hb : c.bi x = true) (hs : ∀ e ∈ [a, a'], notStar e = true) (har : b.ar = 2) (hl : LOk cf xs [a, a'] c) : EOk cf (.bi b xs) (.Call (.Name x p) [a, a'] [] pos) c := .of rfl fun X C W k R => by
  subst hx
  obtain ⟨g1, g2, g3, g4⟩ := k.bi hb
  obtain ⟨_, hr, _⟩ := hl X C W k R
  have hs1 := nS (hs a (by simp))
  have hp : (backTo pos (starEach [a'] X.env)).any (·.1) = false := hpl_all fun e he => hs e (List.mem_cons_of_mem _ he)
  cases b with
  | max2 => exact s_biB (r := bi_max2) rfl (b_max2 k.calm) g1 g2 boot_max g3 g4 hs1 hp hr
  | min2 => exact s_biB (r := bi_min2) rfl (b_min2 k.calm) g1 g2 boot_min g3 g4 hs1 hp hr
  | _ => cases har
theorem k_bi {c : Ct} {b : Bi} {x : Str} {xs : Exs} {es : List Expr} {p pos : Pos} (hb : c.bi x = true) (hx : x = b.nm) (har : b.ar = 1 ∨ b.ar = 2) (hl : xs.len = b.ar) (hc : chL c xs es = true) (h : LOk cf xs es c) : EOk cf (.bi b xs) (.Call (.Name x p) es [] pos) c := by
  have hlen := chL_len hc
  have hst := chL_star hc
  rcases har with e | e
  · rw [e] at hl
    match es, hlen, h, hst with
    | [a], _, h, hst => exact bi_one hx hb (hst a (by simp)) e h
    | [], hlen, _, _ => rw [hl] at hlen; cases hlen
    | _ :: _ :: _, hlen, _, _ => rw [hl] at hlen; simp at hlen
  · rw [e] at hl
    match es, hlen, h, hst with
    | [a, a'], _, h, hst => exact bi_two hx hb hst e h
    | [], hlen, _, _ => rw [hl] at hlen; cases hlen
    | [_], hlen, _, _ => rw [hl] at hlen; simp at hlen
    | _ :: _ :: _ :: _, hlen, _, _ => rw [hl] at hlen; simp at hlen
theorem k_comp {c : Ct} {tg : Tg} {it : Rf.It} {cs : Exs} {x : Ex} {e tge iter : Expr} {ifs : List Expr} {scope : Scope} {pos : Pos} (h1 : notSet iter = true) (h2 : chScope c scope tg = true) (hi : IOk cf it tge iter c) (h3 : chTg (c.blk scope) tg tge = true) (hc : COk cf cs ifs (c.blk scope)) (he : EOk cf x e (c.blk scope)) :
    EOk cf (.comp tg it cs x) (.ListComp e [⟨tge, iter, ifs, 0⟩] scope pos) c := .of rfl fun X C W k R => by
  obtain ⟨h4, h5⟩ := ba h2
  obtain ⟨h6, h7⟩ := ba h4
  rw [List.all_eq_true] at h5 h7
  have ok : BlkOk X.N X.env.scope scope (ownOf c.N scope) := by rw [k.N, k.sc]; exact blkOk_by h6
  exact s_comp k.calm k.nd (fun j hj => of_decide_eq_true (h7 j hj)) (fun j hj => of_decide_eq_true (h5 j hj)) (hi X C W k R) ok (fun s H L cl fp => tg_ok (k.blk scope s H L cl fp) h3) (fun s H L cl fp => hc _ C WF (k.blk scope s H L cl fp) R.free) (fun s H L cl fp => (he _ C WF (k.blk scope s H L cl fp) R.free).1) (nFold h1)
theorem k_call {c : Ct} {f : Nat} {x : Str} {xs : Exs} {es : List Expr} {p pos : Pos} (h1 : c.fns[f]? = some x) (h2 : c.gl x = true) (hc : chA c xs es = true) (h : AOk cf xs es c) : EOk cf (.call f [] xs) (.Call (.Name x p) es [] pos) c := .of rfl fun X C W k R => by
  obtain ⟨n, r, fs, _⟩ := k.lvl
  obtain ⟨fa, fd, ps, q1, q2, q3, q4, _⟩ := fs f x h1
  obtain ⟨g1, g2⟩ := k.gl h2
  cases es with
  | nil =>
    cases xs with
    | nil => exact s_call0 q2 r k.gd k.tk g1 q1 q3 q4 g2
    | cons y ys => cases y <;> simp [chA] at hc
  | cons e es =>
    have st := chA_star hc
    exact s_call q2 r k.gd k.tk g1 q1 q3 q4 g2 (nS (st e List.mem_cons_self)) (hpl_all fun e' he => st e' (List.mem_cons_of_mem _ he)) (h X C W k R)
theorem k_callK {c : Ct} {f : Nat} {kw : List Nat} {x : Str} {xs : Exs} {ks : List Str} {kws : List Keyword} {p pos : Pos} (h0 : (f, kw, ks) ∈ c.kws) (hn : kws.map (·.arg) = ks.map some) (h1 : c.fns[f]? = some x) (h2 : c.gl x = true) (h : ∀ (X : Cx) (C : Nat → Addr) (W : WX), CtOk c X C W cf → ∀ R : Rg, PK X kws (tAA X.K R C W (evA cf xs))) : EOk cf (.call f kw xs) (.Call (.Name x p) [] kws pos) c := .of rfl fun X C W k R => by
  obtain ⟨n, r, fs, _⟩ := k.lvl
  obtain ⟨fa, fd, ps, q1, q2, q3, q4, q5⟩ := fs f x h1
  obtain ⟨g1, g2⟩ := k.gl h2
  exact s_callK q2 r k.gd k.tk g1 q1 q3 (q5 kw ks h0) g2 hn (h X C W k R)
theorem k_rfd {c : Ct} {call word val : Ex} {al : Nat} {ws : List Str} {x : Str} {params : Arguments} {body we ve : Expr} {scope : Scope} {p lpos pos : Pos} (h1 : x = ("_law_refused" : Str)) (h2 : c.gl x = true) (h3 : c.lam = true) (h4 : c.rfa = some al) (h5 : ws = c.cls.map wordOf) (h6 : noPar params = true) (h7 : LamX.lamSB c.sc scope = true)
    (h8 : notStar we = true) (h9 : notStar ve = true) (hw : EOk cf word we c) (hv : EOk cf val ve c) (hb : EOk cf call body (c.lamC scope)) : EOk cf (.rfd call word val al ws) (.Call (.Name x p) [.Lambda params body scope lpos, we, ve] [] pos) c := .of rfl fun X C W k R => by
  subst h1 h5
  obtain rfl := noPar_ok h6
  obtain ⟨n, r, fs, r3, rf⟩ := k.lvl
  obtain ⟨g1, g2⟩ := k.gl h2
  obtain ⟨fr, q1, q2, q3⟩ := rf al h4
  obtain ⟨cc, P, t1, t2, t3, t4⟩ := k.tab h3
  have L : LamX.LamS X.env.scope scope := LamX.lamS_by (by rw [k.sc]; exact h7)
  exact s_rfd q3.1 ((r3 h3).mono (by omega)) k.gd k.tk g1 q1 q2 g2 t2 t1 t3 t4 L rfl (fun _ _ _ _ _ => rfl) (nS h8) (nS h9) (hw X C W k R).1 (hv X C W k R).1 fun R' A outer s H E f c' hgd hr => (hb _ C _ (k.lamC hgd hr fs) R').1
theorem k_rfa {c : Ct} {calls : Exs} {word val : Ex} {al : Nat} {ws : List Str} {x : Str} {es : List Expr} {we ve : Expr} {p lpos pos : Pos} (h1 : x = ("_law_all_refused" : Str)) (h2 : c.gl x = true) (h3 : c.lam = true) (h4 : c.rfa = some al) (h5 : c.raa = true) (h6 : ws = c.cls.map wordOf) (h7 : (exsL calls).length ≤ sizeLine)
    (h8 : notStar we = true) (h9 : notStar ve = true) (hw : EOk cf word we c) (hv : EOk cf val ve c) (hf : FOk cf calls es c) : EOk cf (.rfa calls word val al ws) (.Call (.Name x p) [.List es lpos, we, ve] [] pos) c := .of rfl fun X C W k R => by
  subst h1 h6
  obtain ⟨n, r, fs, r3, rf⟩ := k.lvl
  obtain ⟨g1, g2⟩ := k.gl h2
  obtain ⟨fr, _, _, _, ra⟩ := rf al h4
  obtain ⟨fa, q1, q2, q3⟩ := ra h5
  obtain ⟨cc, P, t1, t2, t3, t4⟩ := k.tab h3
  exact s_rfa q3 (r3 h3) k.gd k.tk g1 q1 q2 g2 t2 t1 t3 t4 (hf X C W k n fs) h7 (nS h8) (nS h9) (hw X C W k R).1 (hv X C W k R).1
theorem k_mtL {c : Ct} {m : Mt} {a : Ex} {o : Ex} {o' a' : Expr} {x : Str} {ap cp : Pos} (hm : m = .index ∨ m = .count) (hx : x = m.nm) (h0 : notCall0 o' = true) (hl : ap.endLine = cp.line) (hs : notStar a' = true) (ho : EOk cf o o' c) (ha : EOk cf a a' c) : EOk cf (.mt m o (.cons a .nil)) (.Call (.Attribute o' x ap) [a'] [] cp) c := .of rfl fun X C W k R => by
  subst hx
  have hu := hu_of k
  rcases hm with rfl | rfl
  · exact s_mtL PySem.F.slot_list_index PySem.F.type_list_index (m_index hu) (fun d h => by cases d <;> first | exact ⟨_, _, rfl⟩ | (cases h; done)) (nAb h0) (by rw [hl]; exact beq_self_eq_true _) (nS hs) (ho X C W k R).1 (ha X C W k R).1
  · exact s_mtL PySem.F.slot_list_count PySem.F.type_list_count (m_count hu) (fun d h => by cases d <;> first | exact ⟨_, _, rfl⟩ | (cases h; done)) (nAb h0) (by rw [hl]; exact beq_self_eq_true _) (nS hs) (ho X C W k R).1 (ha X C W k R).1
end Rf
set_option linter.all false
set_option maxRecDepth 100000
set_option maxHeartbeats 8000000
set_option Elab.async false
/-! Rf: the checker is sound, all expressions, together. -/
namespace Rf
open PySem PySem.Spec PyProof.Rows L2
theorem chB_cons2 {c : Ct} {x y : Ex} {ys : Exs} {e e' : Expr} {es : List Expr} (h : chB c (.cons x (.cons y ys)) (e :: e' :: es) = true) : chE c x e = true ∧ chB c (.cons y ys) (e' :: es) = true := by
  unfold chB at h
  exact ba h
mutual
theorem e_ok (cf : CF) : ∀ (x : Ex) (e : Expr) (c : Ct), chE c x e = true → EOk cf x e c
  | .var i, e, c, h => by
    cases e with
    | Name x p => unfold chE at h; exact k_var h
    | _ => cases h
  | .cst g d, e, c, h => by
    cases e with
    | Name x p =>
      unfold chE at h
      cases d with
      | int i => exact k_cst h
      | _ => cases h
    | _ => cases h
  | .int i, e, c, h => by
    cases e with
    | Constant v n p =>
      cases v with
      | int j =>
        unfold chE at h
        have := of_decide_eq_true h
        subst this
        exact k_con rfl (by rw [ev]) (fun X => pe_int) fun _ _ _ => .int i
      | _ => cases h
    | _ => cases h
  | .str x, e, c, h => by
    cases e with
    | Constant v n p =>
      cases v with
      | str y =>
        unfold chE at h
        have := of_decide_eq_true h
        subst this
        exact k_con rfl (by rw [ev]) (fun X => pe_str) fun _ _ _ => .str x
      | _ => cases h
    | _ => cases h
  | .bl b, e, c, h => by
    cases e with
    | Constant v n p =>
      cases v with
      | bool y =>
        unfold chE at h
        have := of_decide_eq_true h
        subst this
        exact k_con rfl (by rw [ev]) (fun X => pe_bl) fun _ _ _ => .bl b
      | _ => cases h
    | _ => cases h
  | .non, e, c, h => by
    cases e with
    | Constant v n p =>
      cases v with
      | none => exact k_con rfl (by rw [ev]) (fun X => pe_non) fun _ _ _ => .non
      | _ => cases h
    | _ => cases h
  | .dct, e, c, h => by
    cases e with
    | Dict ks vs p =>
      cases ks with
      | nil =>
        cases vs with
        | nil => exact .of rfl fun X C W k R => s_dct
        | cons _ _ => cases h
      | cons _ _ => cases vs <;> cases h
    | _ => cases h
  | .tmp x, e, c, h => by
    have h : chE c x e = true := by unfold chE at h; exact (ba h).2
    exact fun X C W k R => ⟨s_tmp (e_ok cf x e c h X C W k R).1, t_tmp (e_ok cf x e c h X C W k R).2⟩
  | .apf o a, e, c, h => by
    cases e with
    | Call g es kws cp =>
      cases g with
      | Attribute o' x ap =>
        cases es with
        | nil => cases kws <;> cases h
        | cons a' es =>
          cases es with
          | cons _ _ => cases kws <;> cases h
          | nil =>
            cases kws with
            | cons _ _ => cases h
            | nil =>
              unfold chE at h
              obtain ⟨h1, h2⟩ := ba h
              obtain ⟨h3, h4⟩ := ba h1
              obtain ⟨h5, h6⟩ := ba h3
              obtain ⟨h7, h8⟩ := ba h5
              obtain ⟨h9, h10⟩ := ba h7
              have hx := of_decide_eq_true h9
              subst hx
              exact .of rfl fun X C W k R => s_apf (nAb h10) (by rw [of_decide_eq_true h8]; exact beq_self_eq_true _) (nS h6) (e_ok cf o o' c h4 X C W k R).1 (e_ok cf a a' c h2 X C W k R).1
      | _ => cases es <;> cases h
    | _ => cases h
  | .rfa calls word val al ws, e, c, h => by
    cases e with
    | Call g es kws cp =>
      cases g with
      | Name x p =>
        cases es with
        | nil => cases kws <;> cases h
        | cons l es =>
          cases es with
          | nil => cases l <;> cases kws <;> cases h
          | cons w' es =>
            cases es with
            | nil => cases l <;> cases kws <;> cases h
            | cons v' es =>
              cases es with
              | cons _ _ => cases l <;> cases kws <;> cases h
              | nil =>
                cases kws with
                | cons _ _ => cases l <;> cases h
                | nil =>
                  cases l with
                  | List ls lp =>
                  unfold chE at h
                  obtain ⟨h, h12⟩ := ba h
                  obtain ⟨h, h11⟩ := ba h
                  obtain ⟨h, h10⟩ := ba h
                  obtain ⟨h, h9⟩ := ba h
                  obtain ⟨h, h8⟩ := ba h
                  obtain ⟨h, h7⟩ := ba h
                  obtain ⟨h, h6⟩ := ba h
                  obtain ⟨h, h5⟩ := ba h
                  obtain ⟨h, h4⟩ := ba h
                  obtain ⟨h, h3⟩ := ba h
                  obtain ⟨h1, h2⟩ := ba h
                  exact k_rfa (of_decide_eq_true h1) h2 h3 (of_decide_eq_true h4) h5 (of_decide_eq_true h6) (of_decide_eq_true h7) h8 h9 (e_ok cf word w' c h10) (e_ok cf val v' c h11) (f_ok cf calls ls c h12)
                  | _ => cases h
      | _ => cases h
    | _ => cases h
  | .rfd call word val al ws, e, c, h => by
    cases e with
    | Call g es kws cp =>
      cases g with
      | Name x p =>
        cases es with
        | nil => cases kws <;> cases h
        | cons l es =>
          cases es with
          | nil => cases l <;> cases kws <;> cases h
          | cons w' es =>
            cases es with
            | nil => cases l <;> cases kws <;> cases h
            | cons v' es =>
              cases es with
              | cons _ _ => cases l <;> cases kws <;> cases h
              | nil =>
                cases kws with
                | cons _ _ => cases l <;> cases h
                | nil =>
                  cases l with
                  | Lambda params body scope lp =>
                  unfold chE at h
                  obtain ⟨h, h12⟩ := ba h
                  obtain ⟨h, h11⟩ := ba h
                  obtain ⟨h, h10⟩ := ba h
                  obtain ⟨h, h9⟩ := ba h
                  obtain ⟨h, h8⟩ := ba h
                  obtain ⟨h, h7⟩ := ba h
                  obtain ⟨h, h6⟩ := ba h
                  obtain ⟨h, h5⟩ := ba h
                  obtain ⟨h, h4⟩ := ba h
                  obtain ⟨h, h3⟩ := ba h
                  obtain ⟨h1, h2⟩ := ba h
                  exact k_rfd (of_decide_eq_true h1) h2 h3 (of_decide_eq_true h4) (of_decide_eq_true h5) h6 h7 h8 h9 (e_ok cf word w' c h10) (e_ok cf val v' c h11) (e_ok cf call body (c.lamC scope) h12)
                  | _ => cases h
      | _ => cases h
    | _ => cases h
  | .bin op a b, e, c, h => by
    cases e with
    | BinOp a' op' b' p =>
      unfold chE at h
      obtain ⟨h1, h2⟩ := ba h
      obtain ⟨h3, h4⟩ := ba h1
      rw [bop_is h3]
      exact .of rfl fun X C W k R => s_bin (e_ok cf a a' c h4 X C W k R).1 (e_ok cf b b' c h2 X C W k R).1
    | _ => cases h
  | .neg a, e, c, h => by
    cases e with
    | UnaryOp op a' p =>
      cases op with
      | USub => unfold chE at h; exact .of rfl fun X C W k R => s_neg (e_ok cf a a' c h X C W k R).1
      | _ => cases h
    | _ => cases h
  | .not a, e, c, h => by
    cases e with
    | UnaryOp op a' p =>
      cases op with
      | Not => unfold chE at h; exact fun X C W k R => ⟨s_not (e_ok cf a a' c h X C W k R).1, t_not (e_ok cf a a' c h X C W k R).2⟩
      | _ => cases h
    | _ => cases h
  | .cmp op a b, e, c, h => by
    cases e with
    | Compare a' ops bs p =>
      match ops, bs, h with
      | [op'], [b'], h =>
        unfold chE at h
        obtain ⟨h1, h2⟩ := ba h
        obtain ⟨h3, h4⟩ := ba h1
        obtain ⟨h5, h6⟩ := ba h3
        rw [cop_is h5]
        exact fun X C W k R => ⟨s_cmp (hu_of k) (nSt h6) (e_ok cf a a' c h4 X C W k R).1 (e_ok cf b b' c h2 X C W k R).1, t_cmp (hu_of k) (nSt h6) (e_ok cf a a' c h4 X C W k R).1 (e_ok cf b b' c h2 X C W k R).1⟩
      | [], _, h => cases h
      | _ :: _ :: _, _, h => cases h
      | [_], [], h => cases h
      | [_], _ :: _ :: _, h => cases h
    | _ => cases h
  | .chain o1 o2 a b d, e, c, h => by
    cases e with
    | Compare a' ops bs p =>
      match ops, bs, h with
      | [op1, op2], [b', d'], h =>
        unfold chE at h
        obtain ⟨h1, h2⟩ := ba h
        obtain ⟨h3, h4⟩ := ba h1
        obtain ⟨h5, h6⟩ := ba h3
        obtain ⟨h7, h8⟩ := ba h5
        obtain ⟨h9, h10⟩ := ba h7
        rw [cop_is h9, cop_is h10]
        exact fun X C W k R => ⟨s_chain (hu_of k) (nSt h8) (e_ok cf a a' c h6 X C W k R).1 (e_ok cf b b' c h4 X C W k R).1 (e_ok cf d d' c h2 X C W k R).1, t_chain (hu_of k) (nSt h8) (e_ok cf a a' c h6 X C W k R).1 (e_ok cf b b' c h4 X C W k R).1 (e_ok cf d d' c h2 X C W k R).1⟩
      | [], _, h => cases h
      | [_], _, h => cases h
      | _ :: _ :: _ :: _, _, h => cases h
      | [_, _], [], h => cases h
      | [_, _], [_], h => cases h
      | [_, _], _ :: _ :: _ :: _, h => cases h
    | _ => cases h
  | .bop k es, e, c, h => by
    cases e with
    | BoolOp op es' p =>
      unfold chE at h
      obtain ⟨h1, h2⟩ := ba h
      rw [bopIs_is h1]
      intro X C W kk R
      obtain ⟨q1, q2⟩ := b_ok cf es es' c h2 X C W kk R k p
      have e1 : ev cf (.bop k es) = evB cf k es := by rw [ev]
      rw [e1]
      exact ⟨q1, q2.pt⟩
    | _ => cases h
  | .ite d a b, e, c, h => by
    cases e with
    | IfExp d' a' b' p =>
      unfold chE at h
      obtain ⟨h1, h2⟩ := ba h
      obtain ⟨h3, h4⟩ := ba h1
      exact fun X C W k R => ⟨s_ite (e_ok cf d d' c h3 X C W k R).2 (e_ok cf a a' c h4 X C W k R).1 (e_ok cf b b' c h2 X C W k R).1, t_ite (e_ok cf d d' c h3 X C W k R).2 (e_ok cf a a' c h4 X C W k R).2 (e_ok cf b b' c h2 X C W k R).2⟩
    | _ => cases h
  | .lst es, e, c, h => by
    cases e with
    | List es' p =>
      unfold chE at h
      obtain ⟨h1, h2⟩ := ba h
      exact .of rfl fun X C W k R => s_lst (of_decide_eq_true h1) (l_ok cf es es' c h2 X C W k R).1
    | _ => cases h
  | .tup es, e, c, h => by
    cases e with
    | Tuple es' n p =>
      unfold chE at h
      obtain ⟨h1, h2⟩ := ba h
      exact .of rfl fun X C W k R => s_tup (of_decide_eq_true h1) (l_ok cf es es' c h2 X C W k R).1
    | _ => cases h
  | .idx a i, e, c, h => by
    cases e with
    | Subscript a' i' p =>
      unfold chE at h
      obtain ⟨h1, h2⟩ := ba h
      obtain ⟨h3, h4⟩ := ba h1
      exact .of rfl fun X C W k R => s_idx (nSl h3) (e_ok cf a a' c h4 X C W k R).1 (e_ok cf i i' c h2 X C W k R).1
    | _ => cases h
  | .slc a lo hi, e, c, h => by
    cases e with
    | Subscript a' i' p =>
      cases i' with
      | Slice lo' hi' st p2 =>
        cases st with
        | none =>
          unfold chE at h
          obtain ⟨h1, h2⟩ := ba h
          obtain ⟨h3, h4⟩ := ba h1
          exact .of rfl fun X C W k R => s_slc (e_ok cf a a' c h3 X C W k R).1 (o_ok cf lo lo' c h4 X C W k R) (o_ok cf hi hi' c h2 X C W k R)
        | some s => cases h
      | _ => cases h
    | _ => cases h
  | .rev a, e, c, h => by
    cases e with
    | Subscript a' i' p =>
      cases i' with
      | Slice lo' hi' st p2 =>
        cases lo' with
        | some _ => cases st <;> cases h
        | none =>
          cases hi' with
          | some _ => cases st <;> cases h
          | none =>
            cases st with
            | none => cases h
            | some s =>
              cases s with
              | UnaryOp op z p4 =>
                cases op with
                | USub =>
                  cases z with
                  | Constant v n p3 =>
                    cases v with
                    | int j =>
                      unfold chE at h
                      obtain ⟨h1, h2⟩ := ba h
                      have := of_decide_eq_true h1
                      subst this
                      exact .of rfl fun X C W k R => s_rev (e_ok cf a a' c h2 X C W k R).1
                    | _ => cases h
                  | _ => cases h
                | _ => cases h
              | _ => cases h
      | _ => cases h
    | _ => cases h
  | .comp tg it cs x, e, c, h => by
    cases e with
    | ListComp e' gens scope p =>
      cases gens with
      | nil => cases h
      | cons g gs =>
        cases gs with
        | cons _ _ => obtain ⟨tg', it', cs', as⟩ := g; cases h
        | nil =>
          obtain ⟨tg', it', cs', as⟩ := g
          unfold chE at h
          obtain ⟨h1, h2⟩ := ba h
          obtain ⟨h3, h4⟩ := ba h1
          obtain ⟨h5, h6⟩ := ba h3
          obtain ⟨h7, h8⟩ := ba h5
          obtain ⟨h9, h10⟩ := ba h7
          obtain ⟨h11, h12⟩ := ba h9
          have := of_decide_eq_true h11
          subst this
          exact k_comp h12 h10 (it_ok cf it tg' it' c h8) h6 (c_ok cf cs cs' (c.blk scope) h4) (e_ok cf x e' (c.blk scope) h2)
    | _ => cases h
  | .call f kw xs, e, c, h => by
    cases e with
    | Call g es kws p =>
      cases kws with
      | cons kk kks =>
        cases g with
        | Name y p2 =>
          cases es with
          | cons _ _ => cases h
          | nil =>
            unfold chE at h
            obtain ⟨h1, h2⟩ := ba h
            obtain ⟨h3, h4⟩ := ba h1
            obtain ⟨h5, h6⟩ := ba h3
            obtain ⟨h7, h8⟩ := ba h5
            exact k_callK (of_decide_eq_true h7) (of_decide_eq_true h8) (of_decide_eq_true h6) h4 (k_ok cf xs (kk :: kks) c h2)
        | _ => cases es <;> cases h
      | nil =>
        cases g with
        | Name y p2 =>
          unfold chE at h
          obtain ⟨h1, h2⟩ := ba h
          obtain ⟨h3, h4⟩ := ba h1
          obtain ⟨h5, h6⟩ := ba h3
          have := of_decide_eq_true h5
          subst this
          exact k_call (of_decide_eq_true h6) h4 h2 (a_ok cf xs es c h2)
        | _ => cases h
    | _ => cases h
  | .ioa i, e, c, h => by cases e <;> cases h
  | .bi b xs, e, c, h => by
    cases e with
    | Call g es kws p =>
      cases kws with
      | cons _ _ => cases g <;> cases h
      | nil =>
        cases g with
        | Name y p2 =>
          unfold chE at h
          obtain ⟨h1, h2⟩ := ba h
          obtain ⟨h3, h4⟩ := ba h1
          have hy := of_decide_eq_true h3
          have gen : ∀ (h2 : (decide (xs.len = b.ar) && chL c xs es) = true) (har : b.ar = 1 ∨ b.ar = 2), EOk cf (.bi b xs) (.Call (.Name y p2) es [] p) c := fun h2 har => by
            obtain ⟨h5, h6⟩ := ba h2
            exact k_bi h4 hy har (of_decide_eq_true h5) h6 (l_ok cf xs es c h6)
          cases b with
          | repr => exact gen h2 (.inl rfl)
          | sumL =>
            cases xs with
            | nil => cases h2
            | cons a xs =>
              cases xs with
              | cons _ _ => cases h2
              | nil =>
                cases es with
                | nil => cases h2
                | cons a' es =>
                  cases es with
                  | nil => cases h2
                  | cons l es =>
                    cases es with
                    | cons _ _ => cases l <;> first | (cases h2; done) | (rename_i el _; cases el <;> cases h2)
                    | nil =>
                      cases l with
                      | List el p3 =>
                        cases el with
                        | cons _ _ => cases h2
                        | nil =>
                          obtain ⟨h5, h6⟩ := ba h2
                          subst hy
                          refine .of rfl fun X C W k R => ?_
                          obtain ⟨g1, g2, g3, g4⟩ := k.bi h4
                          exact s_sumL k.calm g1 g2 (nS h5) (e_ok cf a a' c h6 X C W k R).1
                      | _ => cases h2
          | lenset =>
            cases xs with
            | nil => cases h2
            | cons a xs =>
              cases xs with
              | cons _ _ => cases h2
              | nil =>
                cases es with
                | nil => cases h2
                | cons l es =>
                  cases es with
                  | cons _ _ => simp at h2
                  | nil =>
                    cases l with
                    | Call g2 es2 kw2 p3 =>
                      cases g2 with
                      | Name z p4 =>
                        cases es2 with
                        | nil => cases kw2 <;> cases h2
                        | cons a' es2 =>
                          cases es2 with
                          | cons _ _ => cases kw2 <;> cases h2
                          | nil =>
                            cases kw2 with
                            | cons _ _ => cases h2
                            | nil =>
                              obtain ⟨h5, h6⟩ := ba h2
                              obtain ⟨h7, h8⟩ := ba h5
                              obtain ⟨h9, h10⟩ := ba h7
                              have hz := of_decide_eq_true h9
                              subst hy hz
                              refine .of rfl fun X C W k R => ?_
                              obtain ⟨g1, g2, g3, g4⟩ := k.bi h4
                              obtain ⟨g5, g6, g7, g8⟩ := k.bi h10
                              exact s_lenset k.calm g1 g2 g5 g6 (nS h8) (e_ok cf a a' c h6 X C W k R).1
                      | _ => cases h2
                    | _ => cases h2
          | max2 => exact gen h2 (.inr rfl)
          | min2 => exact gen h2 (.inr rfl)
          | range1 => exact gen h2 (.inl rfl)
          | len => exact gen h2 (.inl rfl)
          | abs => exact gen h2 (.inl rfl)
          | maxL => exact gen h2 (.inl rfl)
          | minL => exact gen h2 (.inl rfl)
          | sum => exact gen h2 (.inl rfl)
          | sorted => exact gen h2 (.inl rfl)
          | toTuple => exact gen h2 (.inl rfl)
          | int => exact gen h2 (.inl rfl)
          | str => exact gen h2 (.inl rfl)
        | _ => cases h
    | _ => cases h
  | .mt m o xs, e, c, h => by
    cases e with
    | Call g es kws cp =>
      cases kws with
      | cons _ _ => cases g <;> cases h
      | nil =>
        cases g with
        | Attribute o' y ap =>
          unfold chE at h
          obtain ⟨h1, h2⟩ := ba h
          obtain ⟨h3, h4⟩ := ba h1
          obtain ⟨h5, h6⟩ := ba h3
          obtain ⟨h7, h8⟩ := ba h5
          have hy := of_decide_eq_true h7
          have hl := of_decide_eq_true h6
          have ho := e_ok cf o o' c h4
          cases m with
          | index =>
            cases xs with
            | nil => cases h2
            | cons a xs =>
              cases xs with
              | cons _ _ => cases h2
              | nil =>
                cases es with
                | nil => cases h2
                | cons a' es =>
                  cases es with
                  | cons _ _ => cases h2
                  | nil =>
                    obtain ⟨h9, h10⟩ := ba h2
                    exact k_mtL (.inl rfl) hy h8 hl h9 ho (e_ok cf a a' c h10)
          | count =>
            cases xs with
            | nil => cases h2
            | cons a xs =>
              cases xs with
              | cons _ _ => cases h2
              | nil =>
                cases es with
                | nil => cases h2
                | cons a' es =>
                  cases es with
                  | cons _ _ => cases h2
                  | nil =>
                    obtain ⟨h9, h10⟩ := ba h2
                    exact k_mtL (.inr rfl) hy h8 hl h9 ho (e_ok cf a a' c h10)
          | bitlen =>
            cases xs with
            | cons _ _ => cases h2
            | nil =>
              cases es with
              | cons _ _ => cases h2
              | nil =>
                subst hy
                exact .of rfl fun X C W k R => s_bits (nAb h8) (by rw [hl]; exact beq_self_eq_true _) (ho X C W k R).1
          | _ => cases h2
        | _ => cases h
    | _ => cases h
  | .isi ts x, e, c, h => by
    cases e with
    | Call g es kws p =>
      cases kws with
      | cons _ _ => cases g <;> cases es <;> first | (cases h; done) | (rename_i es' ; cases es' <;> first | (cases h; done) | (rename_i es2; cases es2 <;> cases h))
      | nil =>
        cases g with
        | Name y p2 =>
          cases es with
          | nil => cases h
          | cons e' es =>
            cases es with
            | nil => cases h
            | cons t' es =>
              cases es with
              | cons _ _ => cases h
              | nil =>
                unfold chE at h
                obtain ⟨h1, h2⟩ := ba h
                obtain ⟨h3, h4⟩ := ba h1
                obtain ⟨h5, h6⟩ := ba h3
                obtain ⟨h7, h8⟩ := ba h5
                have hy := of_decide_eq_true h7
                subst hy
                have he := e_ok cf x e' c h4
                cases t' with
                | Name z p3 =>
                  cases ts with
                  | nil => cases h2
                  | cons t ts =>
                    cases ts with
                    | cons _ _ => cases h2
                    | nil =>
                      obtain ⟨h9, h10⟩ := ba h2
                      refine .of rfl fun X C W k R => ?_
                      obtain ⟨g1, g2, g3, g4⟩ := k.bi h8
                      obtain ⟨g5, g6, _, _⟩ := k.bi h10
                      exact s_isi1 g1 g2 (of_decide_eq_true h9) g5 g6 (nS h6) (he X C W k R).1
                | Tuple es n p3 =>
                  obtain ⟨h9, h10⟩ := ba h2
                  refine .of rfl fun X C W k R => ?_
                  obtain ⟨g1, g2, g3, g4⟩ := k.bi h8
                  exact s_isiT (of_decide_eq_true h9) g1 g2 (tys_ok k h10) (nS h6) (he X C W k R).1
                | _ => cases h2
        | _ => cases h
    | _ => cases h
  | .lof it, e, c, h => by
    cases e with
    | Call g es kws p =>
      cases g with
      | Name y p2 =>
        cases es with
        | nil => cases kws <;> cases h
        | cons l es =>
          cases es with
          | cons _ _ => simp [chE] at h
          | nil =>
            cases kws with
            | cons _ _ => cases l <;> first | (cases h; done) | (rename_i g2 es2 kw2 _; cases g2 <;> cases kw2 <;> cases h)
            | nil =>
              cases l with
              | Call g2 es2 kw2 p3 =>
                cases g2 with
                | Name z p4 =>
                  cases kw2 with
                  | cons _ _ => cases h
                  | nil =>
                    unfold chE at h
                    obtain ⟨h1, h2⟩ := ba h
                    obtain ⟨h3, h4⟩ := ba h1
                    obtain ⟨h5, h6⟩ := ba h3
                    obtain ⟨h7, h8⟩ := ba h5
                    have hy := of_decide_eq_true h7
                    have hz := of_decide_eq_true h6
                    subst hy hz
                    cases it with
                    | rng1 a =>
                      cases es2 with
                      | nil => cases h2
                      | cons a' es2 =>
                        cases es2 with
                        | cons _ _ => cases h2
                        | nil =>
                          obtain ⟨h9, h10⟩ := ba h2
                          refine .of rfl fun X C W k R => ?_
                          obtain ⟨g1, g2, _, _⟩ := k.bi h8
                          obtain ⟨g5, g6, _, _⟩ := k.bi h4
                          exact s_lof1 k.calm g1 g2 g5 g6 (nS h9) (e_ok cf a a' c h10 X C W k R).1
                    | rng2 a b =>
                      cases es2 with
                      | nil => cases h2
                      | cons a' es2 =>
                        cases es2 with
                        | nil => cases h2
                        | cons b' es2 =>
                          cases es2 with
                          | cons _ _ => cases h2
                          | nil =>
                            obtain ⟨h9, h10⟩ := ba h2
                            obtain ⟨h11, h12⟩ := ba h9
                            obtain ⟨h13, h14⟩ := ba h11
                            refine .of rfl fun X C W k R => ?_
                            obtain ⟨g1, g2, _, _⟩ := k.bi h8
                            obtain ⟨g5, g6, _, _⟩ := k.bi h4
                            exact s_lof2 k.calm g1 g2 g5 g6 (nS h13) (nS h14) (e_ok cf a a' c h12 X C W k R).1 (e_ok cf b b' c h10 X C W k R).1
                    | _ => cases h2
                | _ => cases kw2 <;> cases h
              | _ => cases h
      | _ => cases h
    | _ => cases h
  | .lcp a, e, c, h => by
    cases e with
    | Call g es kws p =>
      cases kws with
      | cons _ _ => cases g <;> cases es <;> first | (cases h; done) | (rename_i es'; cases es' <;> cases h)
      | nil =>
        cases g with
        | Name y p2 =>
          cases es with
          | nil => cases h
          | cons a' es =>
            cases es with
            | cons _ _ => cases h
            | nil =>
              unfold chE at h
              obtain ⟨h1, h2⟩ := ba h
              obtain ⟨h3, h4⟩ := ba h1
              obtain ⟨h5, h6⟩ := ba h3
              have hy := of_decide_eq_true h5
              subst hy
              refine .of rfl fun X C W k R => ?_
              obtain ⟨g1, g2, _, _⟩ := k.bi h6
              exact s_lcp g1 g2 (nS h4) (e_ok cf a a' c h2 X C W k R).1
        | _ => cases h
    | _ => cases h
  | .pop i x, e, c, h => by
    cases e with
    | Call g es kws cp =>
      cases g with
      | Attribute o' y ap =>
        cases o' with
        | Name z p2 =>
          cases es with
          | nil => cases kws <;> cases h
          | cons a' es =>
            cases es with
            | cons _ _ => cases kws <;> cases h
            | nil =>
              cases kws with
              | cons _ _ => cases h
              | nil =>
                unfold chE at h
                obtain ⟨h1, h2⟩ := ba h
                obtain ⟨h3, h4⟩ := ba h1
                obtain ⟨h5, h6⟩ := ba h3
                obtain ⟨h7, h8⟩ := ba h5
                obtain ⟨h9, h10⟩ := ba h7
                have hy := of_decide_eq_true h9
                subst hy
                refine .of rfl fun X C W k R => ?_
                obtain ⟨v1, v2, v3⟩ := k.vis h8
                exact s_pop (k.slot h10) v1 v2 v3 rfl (by rw [of_decide_eq_true h6]; exact beq_self_eq_true _) (nS h4) (e_ok cf x a' c h2 X C W k R).1
        | _ => cases h
      | _ => cases h
    | _ => cases h
theorem f_ok (cf : CF) : ∀ (xs : Exs) (es : List Expr) (c : Ct), chF c xs es = true → FOk cf xs es c
  | .nil, [], c, _ => fun X C W k n fs => .nil
  | .nil, _ :: _, c, h => by simp [chF] at h
  | .cons _ _, [], c, h => by simp [chF] at h
  | .cons call xs, e :: es, c, h => by
    cases e with
    | Lambda params body scope lp =>
      unfold chF at h
      obtain ⟨h, h5⟩ := ba h
      obtain ⟨h, h4⟩ := ba h
      obtain ⟨h, h3⟩ := ba h
      obtain ⟨h1, h2⟩ := ba h
      obtain rfl := noPar_ok h1
      rw [List.all_eq_true] at h3
      intro X C W k n fs
      exact .cons {
        L := LamX.lamS_by (by rw [k.sc]; exact h2)
        fn := fun y hy e => by
          rcases Bool.or_eq_true_iff.mp (h3 y hy) with q | q
          · rw [e] at q; simp at q
          · exact k.fnl _ (of_decide_eq_true q)
        df := rfl
        bind := fun _ _ _ _ _ => rfl
        body := fun R A outer s H E f c' hgd hr => (e_ok cf call body (c.lamC scope) h4 _ C _ (k.lamC hgd hr fs) R).1 } (f_ok cf xs es c h5 X C W k n fs)
    | _ => simp [chF] at h
theorem l_ok (cf : CF) : ∀ (xs : Exs) (es : List Expr) (c : Ct), chL c xs es = true → LOk cf xs es c
  | .nil, [], c, _ => fun X C W k R => ⟨d_nil, r_nil, p_nil⟩
  | .nil, _ :: _, c, h => by simp [chL] at h
  | .cons _ _, [], c, h => by simp [chL] at h
  | .cons x xs, e :: es, c, h => by
    unfold chL at h
    obtain ⟨h1, h2⟩ := ba h
    obtain ⟨h3, h4⟩ := ba h1
    intro X C W k R
    obtain ⟨q1, q2, q3⟩ := l_ok cf xs es c h2 X C W k R
    have q := (e_ok cf x e c h4 X C W k R).1
    exact ⟨d_cons (nS h3) q q1, r_cons (nS h3) q q2, p_cons (nS h3) q q3⟩
theorem b_ok (cf : CF) : ∀ (xs : Exs) (es : List Expr) (c : Ct), chB c xs es = true → BOk cf xs es c
  | .nil, es, c, h => by cases es <;> simp [chB] at h
  | .cons x .nil, [], c, h => by simp [chB] at h
  | .cons x .nil, [e], c, h => by
    unfold chB at h
    exact fun X C W k R kk pos => ⟨s_bop1 (e_ok cf x e c h X C W k R).1, w_bop1 (e_ok cf x e c h X C W k R).2⟩
  | .cons x .nil, e :: e' :: es, c, h => by
    unfold chB at h
    have := (ba h).2
    unfold chB at this
    cases this
  | .cons x (.cons y ys), [], c, h => by simp [chB] at h
  | .cons x (.cons y ys), [e], c, h => by simp [chB] at h
  | .cons x (.cons y ys), e :: e' :: es, c, h => by
    obtain ⟨h1, h2⟩ := chB_cons2 h
    intro X C W k R kk pos
    obtain ⟨q1, q2⟩ := b_ok cf (.cons y ys) (e' :: es) c h2 X C W k R kk pos
    exact ⟨s_bop (e_ok cf x e c h1 X C W k R).1 q1, w_bop (e_ok cf x e c h1 X C W k R).2 q2⟩
theorem o_ok (cf : CF) : ∀ (x : OEx) (e : Option Expr) (c : Ct), chO c x e = true → OOk cf x e c
  | .no, none, c, _ => fun X C W k R => o_no
  | .no, some _, c, h => by simp [chO] at h
  | .so _, none, c, h => by simp [chO] at h
  | .so x, some e, c, h => by
    unfold chO at h
    exact fun X C W k R => o_so (e_ok cf x e c h X C W k R).1
theorem a_ok (cf : CF) : ∀ (xs : Exs) (es : List Expr) (c : Ct), chA c xs es = true → AOk cf xs es c
  | .nil, [], c, _ => fun X C W k R => a_nil
  | .nil, _ :: _, c, h => by simp [chA] at h
  | .cons x xs, [], c, h => by cases x <;> simp [chA] at h
  | .cons x xs, e :: es, c, h => by
    have gen : NotIoa x → (notStar e && chE c x e && chA c xs es) = true → AOk cf (.cons x xs) (e :: es) c := fun hx h => by
      obtain ⟨h1, h2⟩ := ba h
      obtain ⟨h3, h4⟩ := ba h1
      exact fun X C W k R => a_cons hx (nS h3) (e_ok cf x e c h4 X C W k R).1 (a_ok cf xs es c h2 X C W k R)
    cases x with
    | ioa i =>
      cases e with
      | Name y p =>
        unfold chA at h
        obtain ⟨h1, h2⟩ := ba h
        obtain ⟨h3, h4⟩ := ba h1
        intro X C W k R
        obtain ⟨v1, v2, v3⟩ := k.vis h4
        exact a_io (k.slot h3) v1 v2 v3 (a_ok cf xs es c h2 X C W k R)
      | _ => simp [chA] at h
    | _ => exact gen trivial h
theorem k_ok (cf : CF) : ∀ (xs : Exs) (es : List Keyword) (c : Ct), chK c xs es = true → ∀ (X : Cx) (C : Nat → Addr) (W : WX), CtOk c X C W cf → ∀ R : Rg, PK X es (tAA X.K R C W (evA cf xs))
  | .nil, [], c, _ => fun X C W k R => kw_nil
  | .nil, _ :: _, c, h => by simp [chK] at h
  | .cons x xs, [], c, h => by cases x <;> simp [chK] at h
  | .cons x xs, ⟨nm, e, kp⟩ :: es, c, h => by
    have gen : NotIoa x → (chE c x e && chK c xs es) = true → ∀ (X : Cx) (C : Nat → Addr) (W : WX), CtOk c X C W cf → ∀ R : Rg, PK X (⟨nm, e, kp⟩ :: es) (tAA X.K R C W (evA cf (.cons x xs))) := fun hx h => by
      obtain ⟨h3, h2⟩ := ba h
      exact fun X C W k R => kw_cons hx (e_ok cf x e c h3 X C W k R).1 (k_ok cf xs es c h2 X C W k R)
    cases x with
    | ioa i =>
      cases e with
      | Name y p =>
        unfold chK at h
        obtain ⟨h1, h2⟩ := ba h
        obtain ⟨h3, h4⟩ := ba h1
        intro X C W k R
        obtain ⟨v1, v2, v3⟩ := k.vis h4
        exact kw_io (k.slot h3) v1 v2 v3 (k_ok cf xs es c h2 X C W k R)
      | _ => simp [chK] at h
    | _ => exact gen trivial h
theorem c_ok (cf : CF) : ∀ (xs : Exs) (es : List Expr) (c : Ct), chC c xs es = true → COk cf xs es c
  | .nil, [], c, _ => fun X C W k R => c_nil
  | .nil, _ :: _, c, h => by simp [chC] at h
  | .cons x .nil, [], c, h => by simp [chC] at h
  | .cons x .nil, [e], c, h => by
    unfold chC at h
    exact fun X C W k R => c_one (e_ok cf x e c h X C W k R).2
  | .cons x .nil, _ :: _ :: _, c, h => by simp [chC] at h
  | .cons x (.cons y ys), es, c, h => by cases es <;> simp [chC] at h
theorem it_ok (cf : CF) : ∀ (it : Rf.It) (tg e : Expr) (c : Ct), chIt c it tg e = true → IOk cf it tg e c
  | .seq x, tg, e, c, h => by
    unfold chIt at h
    exact fun X C W k R => i_seq (e_ok cf x e c h X C W k R).1
  | .rng1 a, tg, e, c, h => by
    cases e with
    | Call g es kws p =>
      cases g with
      | Name y p2 =>
        cases es with
        | nil => cases kws <;> cases h
        | cons a' es =>
          cases es with
          | cons _ _ => cases kws <;> cases h
          | nil =>
            cases kws with
            | cons _ _ => cases h
            | nil =>
              unfold chIt at h
              obtain ⟨h1, h2⟩ := ba h
              obtain ⟨h3, h4⟩ := ba h1
              obtain ⟨h5, h6⟩ := ba h3
              have hy := of_decide_eq_true h5
              subst hy
              intro X C W k R
              obtain ⟨g1, g2, _, _⟩ := k.bi h6
              exact i_rng1 g1 g2 (nS h4) (e_ok cf a a' c h2 X C W k R).1
      | _ => cases h
    | _ => cases h
  | .rng2 a b, tg, e, c, h => by
    cases e with
    | Call g es kws p =>
      cases g with
      | Name y p2 =>
        cases es with
        | nil => cases kws <;> cases h
        | cons a' es =>
          cases es with
          | nil => cases kws <;> cases h
          | cons b' es =>
            cases es with
            | cons _ _ => cases kws <;> cases h
            | nil =>
              cases kws with
              | cons _ _ => cases h
              | nil =>
                unfold chIt at h
                obtain ⟨h1, h2⟩ := ba h
                obtain ⟨h3, h4⟩ := ba h1
                obtain ⟨h5, h6⟩ := ba h3
                obtain ⟨h7, h8⟩ := ba h5
                obtain ⟨h9, h10⟩ := ba h7
                have hy := of_decide_eq_true h9
                subst hy
                intro X C W k R
                obtain ⟨g1, g2, _, _⟩ := k.bi h10
                exact i_rng2 g1 g2 (nS h8) (nS h6) (e_ok cf a a' c h4 X C W k R).1 (e_ok cf b b' c h2 X C W k R).1
      | _ => cases h
    | _ => cases h
  | .enum a, tg, e, c, h => by
    cases tg with
    | Tuple ts n tp =>
      cases e with
      | Call g es kws p =>
        cases g with
        | Name y p2 =>
          cases es with
          | nil => cases kws <;> cases h
          | cons a' es =>
            cases es with
            | cons _ _ => cases kws <;> cases h
            | nil =>
              cases kws with
              | cons _ _ => cases h
              | nil =>
                unfold chIt at h
                obtain ⟨h1, h2⟩ := ba h
                obtain ⟨h3, h4⟩ := ba h1
                obtain ⟨h5, h6⟩ := ba h3
                have hy := of_decide_eq_true h5
                subst hy
                intro X C W k R
                obtain ⟨g1, g2, _, _⟩ := k.bi h6
                exact i_enum g1 g2 (nS h4) (e_ok cf a a' c h2 X C W k R).1
        | _ => cases h
      | _ => cases h
    | _ => cases h
  | .zip a b, tg, e, c, h => by
    cases tg with
    | Tuple ts n tp =>
      cases e with
      | Call g es kws p =>
        cases g with
        | Name y p2 =>
          cases es with
          | nil => cases kws <;> cases h
          | cons a' es =>
            cases es with
            | nil => cases kws <;> cases h
            | cons b' es =>
              cases es with
              | cons _ _ => cases kws <;> cases h
              | nil =>
                cases kws with
                | cons _ _ => cases h
                | nil =>
                  unfold chIt at h
                  obtain ⟨h1, h2⟩ := ba h
                  obtain ⟨h3, h4⟩ := ba h1
                  obtain ⟨h5, h6⟩ := ba h3
                  obtain ⟨h7, h8⟩ := ba h5
                  obtain ⟨h9, h10⟩ := ba h7
                  have hy := of_decide_eq_true h9
                  subst hy
                  intro X C W k R
                  obtain ⟨g1, g2, _, _⟩ := k.bi h10
                  exact i_zip g1 g2 (nS h8) (nS h6) (e_ok cf a a' c h4 X C W k R).1 (e_ok cf b b' c h2 X C W k R).1
        | _ => cases h
      | _ => cases h
    | _ => cases h
end
end Rf
set_option linter.all false
set_option maxRecDepth 100000
set_option maxHeartbeats 8000000
set_option Elab.async false
/-! Rf: the checker is sound, statements. -/
namespace Rf
open PySem PySem.Spec PyProof.Rows L2
theorem star_any : ∀ {es : List Expr}, (∀ e ∈ es, notStar e = true) → (es.any fun | .Starred .. => true | _ => false) = false
  | [], _ => rfl
  | e :: es, h => by
    rw [List.any_cons, star_any fun e' he => h e' (List.mem_cons_of_mem _ he), Bool.or_false]
    have := h e List.mem_cons_self
    cases e <;> first | rfl | (cases this; done)
theorem sw2 {env : Env} {x y : Str} {px py pt p2 : Pos} {kt k2 : Nat} {a b : Expr} (hk : env.blockKind = .function) (hx : env.kindOf x = some .local) (hy : env.kindOf y = some .local) (hl : py.line = px.line) (hne : x ≠ y) (hs : ∀ e ∈ [a, b], notStar e = true) (hf : [a, b].all (foldedForSure 8) = false) (hc : [a, b].all (constantsAlone 8) = false) :
    swappedStores [.Tuple [.Name x px, .Name y py] kt pt] (.Tuple [a, b] k2 p2) env = pure (some [x, y]) := by
  have hst := star_any hs
  unfold swappedStores
  simp only [hf, hc, hk, hx, hy, hl, hst, List.filterMap, List.head?, Option.map, Option.getD, Expr.pos]
  have h1 : (y == x) = false := beq_eq_false_iff_ne.mpr (Ne.symm hne)
  have e : ([x, y] : List Str).eraseDups = [x, y] := by simp [List.eraseDups, List.eraseDupsBy, List.eraseDupsBy.loop, h1]
  simp [e]
  intro h
  rcases h with h | h
  · have := hs a (by simp)
    cases a <;> first | (cases h; done) | (cases this; done)
  · have := hs b (by simp)
    cases b <;> first | (cases h; done) | (cases this; done)
theorem sw3 {env : Env} {x y z : Str} {px py pz pt p2 : Pos} {kt k2 : Nat} {a b d : Expr} (hk : env.blockKind = .function) (hx : env.kindOf x = some .local) (hy : env.kindOf y = some .local) (hz : env.kindOf z = some .local) (hl : py.line = px.line) (hl2 : pz.line = px.line) (hne : x ≠ y ∧ x ≠ z ∧ y ≠ z) (hs : ∀ e ∈ [a, b, d], notStar e = true) (hf : [a, b, d].all (foldedForSure 8) = false) (hc : [a, b, d].all (constantsAlone 8) = false) :
    swappedStores [.Tuple [.Name x px, .Name y py, .Name z pz] kt pt] (.Tuple [a, b, d] k2 p2) env = pure (some [x, y, z]) := by
  unfold swappedStores
  simp only [hf, hc, hk, hx, hy, hz, hl, hl2, List.filterMap, List.head?, Option.map, Option.getD, Expr.pos]
  have h1 : (y == x) = false := beq_eq_false_iff_ne.mpr (Ne.symm hne.1)
  have h2 : (z == x) = false := beq_eq_false_iff_ne.mpr (Ne.symm hne.2.1)
  have h3 : (z == y) = false := beq_eq_false_iff_ne.mpr (Ne.symm hne.2.2)
  have e : ([x, y, z] : List Str).eraseDups = [x, y, z] := by simp [List.eraseDups, List.eraseDupsBy, List.eraseDupsBy.loop, h1, h2, h3]
  simp [e]
  intro h
  rcases h with h | h | h
  · have := hs a (by simp)
    cases a <;> first | (cases h; done) | (cases this; done)
  · have := hs b (by simp)
    cases b <;> first | (cases h; done) | (cases this; done)
  · have := hs d (by simp)
    cases d <;> first | (cases h; done) | (cases this; done)
theorem sw2n {env : Env} {x y : Str} {px py pt p2 : Pos} {kt k2 : Nat} {a b : Expr} (h : ¬ (env.kindOf x = some .local ∧ env.kindOf y = some .local)) : swappedStores [.Tuple [.Name x px, .Name y py] kt pt] (.Tuple [a, b] k2 p2) env = pure none := by
  unfold swappedStores
  by_cases hx : env.kindOf x = some .local <;> by_cases hy : env.kindOf y = some .local
  · exact absurd ⟨hx, hy⟩ h
  · simp [hx, hy, List.filterMap, Expr.pos]
  · by_cases hl : py.line = px.line <;> simp [hx, hy, hl, List.filterMap, Expr.pos]
  · simp [hx, hy, List.filterMap, Expr.pos]
theorem sw3n {env : Env} {x y z : Str} {px py pz pt p2 : Pos} {kt k2 : Nat} {a b d : Expr} (h : ¬ (env.kindOf x = some .local ∧ env.kindOf y = some .local ∧ env.kindOf z = some .local)) : swappedStores [.Tuple [.Name x px, .Name y py, .Name z pz] kt pt] (.Tuple [a, b, d] k2 p2) env = pure none := by
  unfold swappedStores
  by_cases hx : env.kindOf x = some .local <;> by_cases hy : env.kindOf y = some .local <;> by_cases hz : env.kindOf z = some .local
  · exact absurd ⟨hx, hy, hz⟩ h
  all_goals by_cases hl : py.line = px.line <;> by_cases hm : pz.line = px.line <;> simp [hx, hy, hz, hl, hm, List.filterMap, Expr.pos]
theorem swF {env : Env} {ts es : List Expr} {pt p2 : Pos} {kt k2 : Nat} (hf : es.all (foldedForSure 8) = true) : swappedStores [.Tuple ts kt pt] (.Tuple es k2 p2) env = pure none := by
  unfold swappedStores
  simp only [hf]
  repeat' (first | rfl | split)
theorem swN {env : Env} {ts es : List Expr} {pt p2 : Pos} {kt k2 : Nat} (h : ts.length ≠ 2 ∧ ts.length ≠ 3) : swappedStores [.Tuple ts kt pt] (.Tuple es k2 p2) env = pure none := by
  unfold swappedStores
  simp [h.1, h.2]
theorem sw0 {env : Env} {ts : List Expr} {e : Expr} {pt : Pos} {kt : Nat} (h : notTup e = true) : swappedStores [.Tuple ts kt pt] e env = pure none := by
  cases e <;> first | rfl | (cases h; done)
theorem swS {env : Env} {o i e : Expr} {p : Pos} : swappedStores [.Subscript o i p] e env = pure none := rfl
theorem swC0 {env : Env} {t : Option Expr} {e : Expr} {n : Nat} (h : notComp e = true) : swapsWith e t n env = pure false := by
  cases e <;> first | rfl | (cases h; done)
theorem swC {c : Ct} {env : Env} {y : Str} {p' p : Pos} {n : Nat} {elt : Expr} {gens : List Comprehension} {scope : Scope} (hk : env.blockKind = .function) (hs : env.scope = c.sc) : swapsWith (.ListComp elt gens scope p) (some (.Name y p')) n env = pure (swComp c y p' (.ListComp elt gens scope p)) := by
  show pure (env.blockKind == .function && env.kindOf y == some .local && p'.line == p.line && !(scope.names.any fun (n, k) => n == y && (k == .local || k == .cell))) = _
  unfold Env.kindOf swComp
  rw [hk, hs]
  rfl

def SOk (cf : CF) (nas : List Nat) (s : Rf.St) (st : Stmt) (c : Ct) : Prop := ∀ (X : Cx) (C : Nat → Addr) (W : WX), CtOk c X C W cf → PassesOwn (model X.prog X.w) X.A X.env X.xe → ∀ R : Rg, R.nas = nas → (c.rg = true → RgOk X.K R) → PS X st (tS X.K R C W (exec cf R.β s))
def SsOk (cf : CF) (nas : List Nat) (s : Sts) (st : List Stmt) (c : Ct) : Prop := ∀ (X : Cx) (C : Nat → Addr) (W : WX), CtOk c X C W cf → PassesOwn (model X.prog X.w) X.A X.env X.xe → ∀ R : Rg, R.nas = nas → (c.rg = true → RgOk X.K R) → PSs X st (tS X.K R C W (execs cf R.β s))
/-- .. with what stands behind -/
def SsOkT (cf : CF) (nas : List Nat) (s : Sts) (st : List Stmt) (c : Ct) : Prop := ∀ (X : Cx) (C : Nat → Addr) (W : WX), CtOk c X C W cf → PassesOwn (model X.prog X.w) X.A X.env X.xe → ∀ R : Rg, R.nas = nas → (c.rg = true → RgOk X.K R) → ∀ (b2 : List Stmt) (u : TS), PSs X b2 u → PSs X (st ++ b2) (tSt X.K R C W (execs cf R.β s) u)
theorem ss_of {nas : List Nat} {s : Sts} {st : List Stmt} {c : Ct} {cf : CF} (h : SsOkT cf nas s st c) : SsOk cf nas s st c := fun X C W k hp R hR hG => ss_endT (h X C W k hp R hR hG [] tNext pss_nil)
theorem notIn {nas : List Nat} {is : List Nat} {R : Rg} (hR : R.nas = nas) (h : (is.all fun i => !decide (i ∈ nas)) = true) : ∀ i ∈ is, i ∉ R.nas := fun i hi => by
  rw [List.all_eq_true] at h
  rw [hR]
  simpa using h i hi
theorem bk_of {c : Ct} {X : Cx} {C : Nat → Addr} {W : WX} {cf : CF} (k : CtOk c X C W cf) (h : c.sc.kind = .function) : X.env.blockKind = .function := by
  unfold Env.blockKind
  rw [k.sc, h]; rfl
theorem k_asg {cf : CF} {nas : List Nat} {own : Bool} {i : Nat} {x : Ex} {y : Str} {p' pos : Pos} {e : Expr} {c : Ct} (h : (decide (c.N[i]? = some y) && c.loc y && !decide (i ∈ nas) && chE c x e && (notComp e || decide (c.sc.kind = .function))) = true) : SOk cf nas (.asg own i x) (.Assign [.Name y p'] e pos) c := by
  obtain ⟨h1, h2⟩ := ba h
  obtain ⟨h3, h4⟩ := ba h1
  obtain ⟨h5, h6⟩ := ba h3
  obtain ⟨h7, h8⟩ := ba h5
  intro X C W k hp R hR hG
  obtain ⟨g1, g2⟩ := k.loc h8
  have hi : i ∉ R.nas := by rw [hR]; simpa using h6
  have he := (e_ok cf x e c h4 X C W k R).1
  by_cases hc : notComp e = true
  · exact s_asg k.nd (k.slot h7) g1 g2 hi (swC0 hc) he
  · have hk : c.sc.kind = .function := by
      rcases Bool.or_eq_true_iff.mp h2 with z | z
      · exact absurd z hc
      · exact of_decide_eq_true z
    cases e with
    | ListComp elt gens scope p =>
      have sw := swC (y := y) (p' := p') (p := p) (n := pos.line) (elt := elt) (gens := gens) (scope := scope) (bk_of k hk) k.sc
      cases q : swComp c y p' (.ListComp elt gens scope p) with
      | false => rw [q] at sw; exact s_asg k.nd (k.slot h7) g1 g2 hi sw he
      | true =>
        rw [q] at sw
        have hloc : X.env.scope.names.lookup y = some .local := by
          rw [k.sc]
          unfold swComp at q
          obtain ⟨q1, q2⟩ := ba q
          obtain ⟨q3, q4⟩ := ba q1
          exact eq_of_beq q3
        cases x with
        | comp tg it cs x =>
          cases gens with
          | nil => cases h4
          | cons g gs =>
            cases gs with
            | cons _ _ => obtain ⟨tg', it', cs', as⟩ := g; cases h4
            | nil =>
              obtain ⟨tg', it', cs', as⟩ := g
              unfold chE at h4
              obtain ⟨a1, a2⟩ := ba h4
              obtain ⟨a3, a4⟩ := ba a1
              obtain ⟨a5, a6⟩ := ba a3
              obtain ⟨a7, a8⟩ := ba a5
              obtain ⟨a9, a10⟩ := ba a7
              obtain ⟨a11, a12⟩ := ba a9
              have := of_decide_eq_true a11
              subst this
              obtain ⟨b4, b5⟩ := ba a10
              obtain ⟨b6, b7⟩ := ba b4
              rw [List.all_eq_true] at b5 b7
              have ok : BlkOk X.N X.env.scope scope (ownOf c.N scope) := by rw [k.N, k.sc]; exact blkOk_by b6
              exact s_asgLc k.calm k.nd (k.slot h7) hloc sw hi (fun j hj => of_decide_eq_true (b7 j hj)) (fun j hj => of_decide_eq_true (b5 j hj)) (it_ok cf it tg' it' c a8 X C W k R) ok (fun s H L cl fp => tg_ok (k.blk scope s H L cl fp) a6)
                (fun s H L cl fp => c_ok cf cs cs' (c.blk scope) a4 _ C WF (k.blk scope s H L cl fp) R.free) (fun s H L cl fp => (e_ok cf x elt (c.blk scope) a2 _ C WF (k.blk scope s H L cl fp) R.free).1) (nFold a12)
        | tmp x => unfold chE at h4; cases (ba h4).1
        | _ => cases h4
    | SetComp => cases x <;> first | (cases h4; done) | (unfold chE at h4; cases (ba h4).1)
    | DictComp => cases x <;> first | (cases h4; done) | (unfold chE at h4; cases (ba h4).1)
    | _ => exact absurd rfl hc
end Rf
set_option linter.all false
set_option maxRecDepth 100000
set_option maxHeartbeats 8000000
set_option Elab.async false
/-! Rf: the checker is sound, statements, together. -/
namespace Rf
open PySem PySem.Spec PyProof.Rows L2
theorem nb {b : Bool} (h : (!b) = true) : b = false := by cases b <;> first | rfl | (cases h; done)
theorem swC1 {env : Env} {t e : Expr} {n : Nat} (h : notComp e = true) : swapsWithSole [t] e n env = pure false := by
  unfold swapsWithSole
  exact swC0 h
theorem lcl_of {c : Ct} {X : Cx} {C : Nat → Addr} {W : WX} {cf : CF} (k : CtOk c X C W cf) {x : Str} (h : c.lcl x = true) : X.env.scope.names.lookup x = some .local := by rw [k.sc]; exact of_decide_eq_true h
theorem names_tup {c : Ct} {X : Cx} {C : Nat → Addr} {W : WX} {cf : CF} (k : CtOk c X C W cf) {is : List Nat} {es : List Expr} {n : Nat} {p : Pos} (h : chNames c is es = true) : PG X (.Tuple es n p) (gTup X.K is.length (gNames is)) := by
  obtain ⟨n1, n2, n3⟩ := names_ok k h
  exact pg_tup k.calm n1 n2 n3
theorem chNames_slot {c : Ct} : ∀ {is : List Nat} {es : List Expr}, chNames c is es = true → es.length = is.length
  | [], [], _ => rfl
  | [], _ :: _, h => by simp [chNames] at h
  | _ :: _, [], h => by simp [chNames] at h
  | i :: is, e :: es, h => by
    cases e with
    | Name x p =>
      unfold chNames at h
      obtain ⟨h1, h2⟩ := ba h
      simp [chNames_slot h2]
    | _ => simp [chNames] at h
theorem k_par {cf : CF} {nas : List Nat} {own : List Bool} {is : List Nat} {xs : Exs} {ts es : List Expr} {k1 k2 : Nat} {p1 p2 pos : Pos} {c : Ct} (h : chS c nas (.par own is xs) (.Assign [.Tuple ts k1 p1] (.Tuple es k2 p2) pos) = true) : SOk cf nas (.par own is xs) (.Assign [.Tuple ts k1 p1] (.Tuple es k2 p2) pos) c := by
  unfold chS at h
  obtain ⟨h1, h2⟩ := ba h
  obtain ⟨h3, h4⟩ := ba h1
  obtain ⟨h5, h6⟩ := ba h3
  obtain ⟨h7, h8⟩ := ba h5
  obtain ⟨h9, h10⟩ := ba h7
  obtain ⟨h11, h12⟩ := ba h9
  obtain ⟨h13, h14⟩ := ba h11
  intro X C W k hp R hR hG
  have hn := notIn hR h13
  have hl := of_decide_eq_true h14
  have hnd := of_decide_eq_true h10
  have hbk := bk_of k (of_decide_eq_true h4)
  have hst := chL_star h12
  have hle := of_decide_eq_true h6
  have hsl := chNames_slot h8
  obtain ⟨_, _, ha⟩ := l_ok cf xs es c h12 X C W k R
  rcases Bool.or_eq_true_iff.mp h2 with h2 | h2
  · exact s_parT hl hn (names_tup k h8) ha (swF h2) rfl
  have fall : ∀ h : (!(decide (ts.length = 2) || decide (ts.length = 3))) = true, PS X (.Assign [.Tuple ts k1 p1] (.Tuple es k2 p2) pos) (tS X.K R C W (exec cf R.β (.par own is xs))) := fun h => by
    have : ts.length ≠ 2 ∧ ts.length ≠ 3 := by simpa using h
    exact s_parT hl hn (names_tup k h8) ha (swN this) rfl
  match is, ts, es, hsl, hle, hn, hnd, hl, ha, hst, h2, h8, fall with
  | [i, j], [t1, t2], [a, b], _, _, hn, hnd, hl, ha, hst, h2, h8, fall =>
    cases t1 with
    | Name x px =>
      cases t2 with
      | Name y py =>
        have h8' := h8
        unfold chNames at h8
        obtain ⟨b1, b2⟩ := ba h8
        obtain ⟨b3, b4⟩ := ba b1
        unfold chNames at b2
        obtain ⟨b5, b6⟩ := ba b2
        obtain ⟨b7, b8⟩ := ba b5
        rcases Bool.or_eq_true_iff.mp h2 with h2 | h2
        · obtain ⟨a1, a2⟩ := ba h2
          obtain ⟨a3, a4⟩ := ba a1
          obtain ⟨a5, a6⟩ := ba a3
          obtain ⟨a7, a8⟩ := ba a5
          obtain ⟨a9, a10⟩ := ba a7
          have lx := lcl_of k a4
          have ly := lcl_of k a2
          exact s_par2 k.calm k.nd (k.slot b3) (k.slot b7) (by simpa using hnd) lx ly hn ha (sw2 hbk lx ly (of_decide_eq_true a6) (of_decide_eq_true a9) hst (nb a10) (nb a8))
        · refine s_parT (is := [i, j]) hl hn (names_tup k h8') ha (sw2n fun z => ?_) rfl
          have n := nb h2
          have z1 : c.lcl x = true := by unfold Ct.lcl; rw [← k.sc]; exact decide_eq_true z.1
          have z2 : c.lcl y = true := by unfold Ct.lcl; rw [← k.sc]; exact decide_eq_true z.2
          rw [z1, z2] at n
          cases n
      | _ => simp [chNames] at h8
    | _ => simp [chNames] at h8
  | [i, j, l], [t1, t2, t3], [a, b, d], _, _, hn, hnd, hl, ha, hst, h2, h8, fall =>
    cases t1 with
    | Name x px =>
      cases t2 with
      | Name y py =>
        cases t3 with
        | Name z pz =>
          have h8' := h8
          unfold chNames at h8
          obtain ⟨b1, b2⟩ := ba h8
          obtain ⟨b3, b4⟩ := ba b1
          unfold chNames at b2
          obtain ⟨b5, b6⟩ := ba b2
          obtain ⟨b7, b8⟩ := ba b5
          unfold chNames at b6
          obtain ⟨b9, b10⟩ := ba b6
          obtain ⟨b11, b12⟩ := ba b9
          rcases Bool.or_eq_true_iff.mp h2 with h2 | h2
          · obtain ⟨a1, a2⟩ := ba h2
            obtain ⟨a3, a4⟩ := ba a1
            obtain ⟨a5, a6⟩ := ba a3
            obtain ⟨a7, a8⟩ := ba a5
            obtain ⟨a9, a10⟩ := ba a7
            obtain ⟨a11, a12⟩ := ba a9
            have lx := lcl_of k a6
            have ly := lcl_of k a4
            have lz := lcl_of k a2
            have hl2 := of_decide_eq_true a8
            have hnd2 : i ≠ j ∧ i ≠ l ∧ j ≠ l := by
              simp at hnd
              exact ⟨hnd.1.1, hnd.1.2, hnd.2⟩
            exact s_par3 k.calm k.nd (k.slot b3) (k.slot b7) (k.slot b11) hnd2.1 hnd2.2.1 hnd2.2.2 lx ly lz hn ha (sw3 hbk lx ly lz hl2.1 hl2.2 (of_decide_eq_true a11) hst (nb a12) (nb a10))
          · refine s_parT (is := [i, j, l]) hl hn (names_tup k h8') ha (sw3n fun z' => ?_) rfl
            have n := nb h2
            have z1 : c.lcl x = true := by unfold Ct.lcl; rw [← k.sc]; exact decide_eq_true z'.1
            have z2 : c.lcl y = true := by unfold Ct.lcl; rw [← k.sc]; exact decide_eq_true z'.2.1
            have z3 : c.lcl z = true := by unfold Ct.lcl; rw [← k.sc]; exact decide_eq_true z'.2.2
            rw [z1, z2, z3] at n
            cases n
        | _ => simp [chNames] at h8
      | _ => simp [chNames] at h8
    | _ => simp [chNames] at h8
  | [], [], es, _, _, _, _, _, _, _, _, _, fall => exact fall rfl
  | [_], [_], es, _, _, _, _, _, _, _, _, _, fall => exact fall rfl
  | _ :: _ :: _ :: _ :: _, _ :: _ :: _ :: _ :: _, es, _, _, _, _, _, _, _, _, _, fall => exact fall (by simp)
mutual
theorem st_ok (cf : CF) : ∀ (s : Rf.St) (st : Stmt) (c : Ct) (nas : List Nat), chS c nas s st = true → SOk cf nas s st c
  | .ex x, st, c, nas, h => by
    cases st with
    | Expr e p =>
      unfold chS at h
      obtain ⟨h1, h2⟩ := ba h
      exact fun X C W k hp R hR hG => s_ex (swC0 h1) (e_ok cf x e c h2 X C W k R).1
    | _ => cases h
  | .asg own i x, st, c, nas, h => by
    cases st with
    | Assign ts e p =>
      match ts, h with
      | [.Name y p'], h => unfold chS at h; exact k_asg h
      | [], h => cases h
      | t :: _ :: _, h => cases t <;> cases h
      | [t], h => cases t <;> first | (cases h; done) | (unfold chS at h; exact k_asg h)
    | _ => cases h
  | .asgT is x, st, c, nas, h => by
    cases st with
    | Assign ts e p =>
      cases ts with
      | nil => cases h
      | cons t ts =>
        cases ts with
        | cons _ _ => cases t <;> cases h
        | nil =>
          cases t with
          | Tuple es kk p' =>
            unfold chS at h
            obtain ⟨h1, h2⟩ := ba h
            obtain ⟨h3, h4⟩ := ba h1
            obtain ⟨h5, h6⟩ := ba h3
            obtain ⟨h7, h8⟩ := ba h5
            exact fun X C W k hp R hR hG => s_asgT (notIn hR h8) (by
              obtain ⟨n1, n2, n3⟩ := names_ok k h7
              exact pg_or (pg_tup k.calm n1 n2 n3) (pg_unl k.calm n1 n2 n3)) (swC1 h4) (sw0 h6) rfl (e_ok cf x e c h2 X C W k R).1
          | _ => cases h
    | _ => cases h
  | .par own is xs, st, c, nas, h => by
    cases st with
    | Assign ts e p =>
      cases ts with
      | nil => cases h
      | cons t ts =>
        cases ts with
        | cons _ _ => cases t <;> cases e <;> cases h
        | nil =>
          cases t with
          | Tuple es kk p' =>
            cases e with
            | Tuple es' k2 p2 => exact k_par h
            | _ => cases h
          | _ => cases e <;> cases h
    | _ => cases h
  | .setI i kx x, st, c, nas, h => by
    cases st with
    | Assign ts e p =>
      cases ts with
      | nil => cases h
      | cons t ts =>
        cases ts with
        | cons _ _ => cases t <;> first | (cases h; done) | (rename_i o _ _; cases o <;> cases h)
        | nil =>
          cases t with
          | Subscript o k' p' =>
            cases o with
            | Name y py =>
              unfold chS at h
              obtain ⟨h1, h2⟩ := ba h
              obtain ⟨h3, h4⟩ := ba h1
              obtain ⟨h5, h6⟩ := ba h3
              obtain ⟨h7, h8⟩ := ba h5
              obtain ⟨h9, h10⟩ := ba h7
              intro X C W k hp R hR hG
              obtain ⟨v1, v2, v3⟩ := k.vis h10
              refine s_setI (k.slot h9) v1 v2 v3 (nSl h8) (swC1 h6) swS (e_ok cf x e c h4 X C W k R).1 (e_ok cf kx k' c h2 X C W k R).1 fun v => ?_
              cases k' <;> first | rfl | (cases h8; done)
            | _ => cases h
          | _ => cases h
    | _ => cases h
  | .app i x, st, c, nas, h => by
    cases st with
    | Expr e p =>
      cases e with
      | Call f es kws cp =>
        cases f with
        | Attribute o m ap =>
          cases o with
          | Name y p2 =>
            cases es with
            | nil => cases kws <;> cases h
            | cons a es =>
              cases es with
              | cons _ _ => cases kws <;> cases h
              | nil =>
                cases kws with
                | cons _ _ => cases h
                | nil =>
                  unfold chS at h
                  obtain ⟨h1, h2⟩ := ba h
                  obtain ⟨h3, h4⟩ := ba h1
                  obtain ⟨h5, h6⟩ := ba h3
                  obtain ⟨h7, h8⟩ := ba h5
                  obtain ⟨h9, h10⟩ := ba h7
                  have hy := of_decide_eq_true h9
                  subst hy
                  intro X C W k hp R hR hG
                  obtain ⟨v1, v2, v3⟩ := k.vis h8
                  exact s_app (k.slot h10) v1 v2 v3 rfl (by rw [of_decide_eq_true h6]; exact beq_self_eq_true _) (nS h4) (e_ok cf x a c h2 X C W k R).1
          | _ => cases h
        | _ => cases h
      | _ => cases h
    | _ => cases h
  | .rem i x, st, c, nas, h => by
    cases st with
    | Expr e p =>
      cases e with
      | Call f es kws cp =>
        cases f with
        | Attribute o m ap =>
          cases o with
          | Name y p2 =>
            cases es with
            | nil => cases kws <;> cases h
            | cons a es =>
              cases es with
              | cons _ _ => cases kws <;> cases h
              | nil =>
                cases kws with
                | cons _ _ => cases h
                | nil =>
                  unfold chS at h
                  obtain ⟨h1, h2⟩ := ba h
                  obtain ⟨h3, h4⟩ := ba h1
                  obtain ⟨h5, h6⟩ := ba h3
                  obtain ⟨h7, h8⟩ := ba h5
                  obtain ⟨h9, h10⟩ := ba h7
                  have hy := of_decide_eq_true h9
                  subst hy
                  intro X C W k hp R hR hG
                  obtain ⟨v1, v2, v3⟩ := k.vis h8
                  exact s_rem (k.slot h10) v1 v2 v3 rfl (by rw [of_decide_eq_true h6]; exact beq_self_eq_true _) (nS h4) (e_ok cf x a c h2 X C W k R).1
          | _ => cases h
        | _ => cases h
      | _ => cases h
    | _ => cases h
  | .ite d a b, st, c, nas, h => by
    cases st with
    | If d' a' b' p =>
      unfold chS at h
      obtain ⟨h1, h2⟩ := ba h
      obtain ⟨h3, h4⟩ := ba h1
      exact fun X C W k hp R hR hG => s_if (e_ok cf d d' c h3 X C W k R).2 (ss_of (ss_okT cf a a' c nas h4) X C W k hp R hR hG) (ss_of (ss_okT cf b b' c nas h2) X C W k hp R hR hG)
    | _ => cases h
  | .for_ tg it b, st, c, nas, h => by
    cases st with
    | For tg' it' b' o p =>
      cases o with
      | cons _ _ => cases h
      | nil =>
        unfold chS at h
        obtain ⟨h1, h2⟩ := ba h
        obtain ⟨h3, h4⟩ := ba h1
        obtain ⟨h5, h6⟩ := ba h3
        obtain ⟨h7, h8⟩ := ba h5
        exact fun X C W k hp R hR hG => s_for (notIn hR h7) hp k.calm (it_ok cf it tg' it' c h6 X C W k R) (tg_ok k h4) (fun Bs' => ss_of (ss_okT cf b b' { c with rg := false } nas h2) X C W (k.withRg false) hp (R.at Bs') hR (fun (z : false = true) => nomatch z)) (nFold h8)
    | _ => cases h
  | .whl d b, st, c, nas, h => by
    cases st with
    | While d' b' o p =>
      cases o with
      | cons _ _ => cases h
      | nil =>
        unfold chS at h
        obtain ⟨h1, h2⟩ := ba h
        exact fun X C W k hp R hR hG => s_while hp (e_ok cf d d' c h1 X C W k R).2 (ss_of (ss_okT cf b b' c nas h2) X C W k hp R hR hG)
    | _ => cases h
  | .ret x, st, c, nas, h => by
    cases st with
    | Return v p =>
      cases v with
      | some e => 
        have h : chE c x e = true := by cases x <;> exact h
        exact fun X C W k hp R hR hG => s_ret (e_ok cf x e c h X C W k R).1
      | none =>
        cases x with
        | non => exact fun X C W k hp R hR hG => s_retN
        | _ => cases h
    | _ => cases x <;> cases h
  | .rse n x, st, c, nas, h => by
    cases st with
    | Raise e f p =>
      cases f with
      | some _ =>
        cases e with
        | none => cases h
        | some e =>
          cases e with
          | Call g es kws cp =>
            cases g with
            | Name y py =>
              cases es with
              | nil => cases kws <;> cases h
              | cons a es =>
                cases es with
                | nil => cases kws <;> cases h
                | cons _ _ => cases kws <;> cases h
            | _ => cases h
          | _ => cases h
      | none =>
        cases e with
        | none => cases h
        | some e =>
          cases e with
          | Call g es kws cp =>
            cases g with
            | Name y py =>
              cases es with
              | nil => cases kws <;> cases h
              | cons a es =>
                cases es with
                | cons _ _ => cases kws <;> cases h
                | nil =>
                  cases kws with
                  | cons _ _ => cases h
                  | nil =>
                    unfold chS at h
                    obtain ⟨h1, h2⟩ := ba h
                    obtain ⟨h3, h4⟩ := ba h1
                    obtain ⟨h5, h6⟩ := ba h3
                    intro X C W k hp R hR hG
                    obtain ⟨q1, fI, q2⟩ := k.cl n y (of_decide_eq_true h5)
                    obtain ⟨g1, g2⟩ := k.gl h6
                    obtain ⟨m, hm, _⟩ := k.lvl
                    exact s_rse q2 hm k.tk k.calm g1 q1 g2 (nS h4) (e_ok cf x a c h2 X C W k R).1
            | _ => cases h
          | _ => cases h
    | _ => cases h
  | .brk, st, c, nas, h => by
    cases st with
    | Break p => exact fun X C W k hp R hR hG => s_brk
    | _ => cases h
  | .pas, st, c, nas, h => by
    cases st with
    | Pass p => exact fun X C W k hp R hR hG => s_pas
    | _ => cases h
  | .scr keep p x, st, c, nas, h => by
    cases st with
    | Expr e pos =>
      cases e with
      | Call f es kws cp =>
        cases f with
        | Attribute o m ap =>
          cases es with
          | nil => cases kws <;> cases h
          | cons a es =>
            cases es with
            | cons _ _ => cases kws <;> cases h
            | nil =>
              cases kws with
              | cons _ _ => cases h
              | nil =>
                unfold chS at h
                obtain ⟨h, h8⟩ := ba h
                obtain ⟨h, h7⟩ := ba h
                obtain ⟨h, h6⟩ := ba h
                obtain ⟨h, h5⟩ := ba h
                obtain ⟨h, h4⟩ := ba h
                obtain ⟨h, h3⟩ := ba h
                obtain ⟨h1, h2⟩ := ba h
                have hm := of_decide_eq_true h1
                subst hm
                intro X C W k hp R hR hG
                exact s_scr (fun i hi => by rw [hR]; exact of_decide_eq_true (List.all_eq_true.mp h3 i hi)) (hG h2) (nAb h4) (by rw [of_decide_eq_true h5]; exact beq_self_eq_true _) (nS h6) (e_ok cf p o c h7 X C W k R).1 (e_ok cf x a c h8 X C W k R).1
        | _ => cases es <;> cases h
      | _ => cases h
    | _ => cases h
  | .scrs _ _ _ _, st, c, nas, h => by cases st <;> cases h
theorem ss_okT (cf : CF) : ∀ (s : Sts) (st : List Stmt) (c : Ct) (nas : List Nat), chSs c nas s st = true → SsOkT cf nas s st c
  | .nil, [], c, nas, _ => fun X C W k hp R hR hG b2 u h2 => ss_nilT h2
  | .nil, _ :: _, c, nas, h => by simp [chSs] at h
  | .cons _ _, [], c, nas, h => by simp [chSs] at h
  | .cons s r, t :: ts, c, nas, h => by
    unfold chSs at h
    obtain ⟨h1, h2⟩ := ba h
    exact fun X C W k hp R hR hG b2 u hb => ss_consT (st_ok cf s t c nas h1 X C W k hp R hR hG) (ss_okT cf r ts c nas h2 X C W k hp R hR hG b2 u hb)
  | .blk nas' b r, st, c, nas, h => by
    have h : (nas.all (fun i => decide (i ∈ nas')) && chSs { c with rg := true } nas' b (st.take b.len) && chSs c nas r (st.drop b.len)) = true := by cases st <;> exact h
    obtain ⟨h, h3⟩ := ba h
    obtain ⟨h1, h2⟩ := ba h
    intro X C W k hp R hR hG b2 u hb
    have e : st ++ b2 = st.take b.len ++ (st.drop b.len ++ b2) := by rw [← List.append_assoc, List.take_append_drop]
    rw [e]
    exact ss_blkT (fun i hi => of_decide_eq_true (List.all_eq_true.mp h1 i (hR ▸ hi))) fun R' hR' ok => ss_okT cf b (st.take b.len) { c with rg := true } nas' h2 X C W (k.withRg true) hp R' hR' (fun _ => ok) _ _ (ss_okT cf r (st.drop b.len) c nas h3 X C W k hp R hR hG b2 u hb)
end
theorem ss_ok (cf : CF) (s : Sts) (st : List Stmt) (c : Ct) (nas : List Nat) (h : chSs c nas s st = true) : SsOk cf nas s st c := ss_of (ss_okT cf s st c nas h)
end Rf
set_option linter.all false
set_option maxRecDepth 100000
set_option maxHeartbeats 2000000
set_option Elab.async false
/-! Rf: a program's defs, at every depth of calls; a law's end. -/
namespace Rf
open PySem PySem.Spec PyProof.Rows L2
def Gt.ct (g : Gt) (p : Pd) : Ct := { rfa := g.rfa.map (·.1), raa := g.raa.isSome, N := p.N, sc := defScope p.st, fns := g.fns, cls := g.cls, gis := g.gis, free := g.free, fnl := p.N, kws := g.kws, lam := true }
def scopeC (N P : List Str) (sc : Scope) : Bool := decide (sc.kind = .function) && decide (sc.isCoroutine = false) && decide (sc.isGenerator = false) && decide N.Nodup && decide (N.take P.length = P) && (P.all fun x => decide (sc.names.lookup x = some .local) || decide (sc.names.lookup x = some .cell)) && (sc.names.all fun y => !decide (y.2 = .free))
theorem scope_ok {N P : List Str} {sc : Scope} (h : scopeC N P sc = true) : FnScope N P sc := by
  unfold scopeC at h
  obtain ⟨h, h7⟩ := ba h
  obtain ⟨h, h6⟩ := ba h
  obtain ⟨h, h5⟩ := ba h
  obtain ⟨h, h4⟩ := ba h
  obtain ⟨h, h3⟩ := ba h
  obtain ⟨h1, h2⟩ := ba h
  rw [List.all_eq_true] at h6 h7
  refine ⟨of_decide_eq_true h1, of_decide_eq_true h2, of_decide_eq_true h3, of_decide_eq_true h4, of_decide_eq_true h5, fun x hx => ?_, fun y hy => ?_⟩
  · rcases Bool.or_eq_true_iff.mp (h6 x hx) with q | q
    · exact .inl (of_decide_eq_true q)
    · exact .inr (of_decide_eq_true q)
  · have := h7 y hy
    simpa using this
def chP (g : Gt) (p : Pd) : Bool := scopeC p.N p.ps (defScope p.st) && decide (p.N.length = p.F.ns) && decide (p.F.np ≤ p.F.ns) && decide (p.ps.length = p.F.np) && chSs (g.ct p) p.F.nas p.F.body (defBody p.st)
end Rf
set_option linter.all false
set_option maxRecDepth 100000
set_option maxHeartbeats 4000000
set_option Elab.async false
/-! Rf: `_law_caught`: its shape, its tail. -/
namespace Rf
open PySem PySem.Spec PyProof.Rows L2 LamX
def nCa : List Str := ["call", "caught", "e", "kinds", "words"]
def names16 : List Str := words16.map (·.1)
/-- what is known of the program's errors -/
structure ErrOk (K : Fg) (mg : Str → Option Value) (C : Nat → Addr) (cls : List Str) (LE : Addr) : Prop where
  le : mg "LineError" = some (.ref LE)
  cl : ∀ (i : Nat) (x : Str), cls[i]? = some x → mg x = some (.ref (C i)) ∧ ExcC K (C i) ∧ XfC K (C i) ∧ PySem.W.findIn K (.ref (C i)) "value" = some none ∧ PySem.W.exmOne K (.ref (C i)) (.ref LE) = some true ∧
    ∀ (j : Nat) (y : Str), cls[j]? = some y → PySem.W.kitOne K (.ref (C i)) (.ref (C j)) = some (decide (x = y))
  all : ∀ y ∈ names16, y ∈ cls
  sub : ∀ x ∈ cls, x ∈ names16
/-! the own form of the tail -/
def blsOf (x : Str) : List Str → Exs
  | [] => .nil
  | y :: r => .cons (.bl (decide (x = y))) (blsOf x r)
def strsOf : List Str → Exs
  | [] => .nil
  | y :: r => .cons (.str y) (strsOf r)
def saLet : Sts := .cons (.ret (.tup (.cons (.str "let") (.cons .non .nil)))) .nil
def exTest : Ex := .cmp .eq (.mt .count (.var 3) (.cons (.bl true) .nil)) (.int 1)
def exWord : Ex := .idx (.var 4) (.mt .index (.var 3) (.cons (.bl true) .nil))
def exOdd : Ex := .tup (.cons (.str "odd") (.cons .non .nil))
def exWords : Ex := .lst (strsOf (words16.map (·.2)))
def tailOf (x : Str) (d : D) : Sts :=
  .cons (.ite (.bl false) saLet .nil) (.cons (.asg false 3 (.lst (blsOf x (names16.take 4)))) (.cons (.asg false 3 (.bin .add (.var 3) (.lst (blsOf x ((names16.drop 4).take 4))))) (.cons (.asg false 3 (.bin .add (.var 3) (.lst (blsOf x ((names16.drop 8).take 4)))))
  (.cons (.asg false 3 (.bin .add (.var 3) (.lst (blsOf x (names16.drop 12))))) (.cons (.asg false 4 exWords) (.cons (.ret (.ite exTest (.tup (.cons exWord (.cons (.cst 0 d) .nil))) exOdd)) .nil))))))
/-! the shape -/
def caNone : Stmt → Bool
  | .Assign [.Name y _] (.Constant .none _ _) _ => decide (y = ("caught" : Str))
  | _ => false
def caTry (c : Ct) : Stmt → Bool
  | .Try [.Expr (.Call (.Name x _) [] [] _) _] [.ExceptHandler (some (.Name l _)) (some n) [.Assign [.Name y _] (.Name n2 _) _] _] [] [] _ => decide (x = ("call" : Str)) && decide (l = ("LineError" : Str)) && c.gl l && decide (n = ("e" : Str)) && decide (y = ("caught" : Str)) && decide (n2 = ("e" : Str))
  | _ => false
def caIf (c : Ct) : Stmt → Bool
  | .If (.Compare (.Name y p1) [.Is] [.Constant .none p2 p3] p4) body [] _ => decide (y = ("caught" : Str)) && chE c (.cmp .is_ (.var 1) .non) (.Compare (.Name y p1) [.Is] [.Constant .none p2 p3] p4) && chSs c [] saLet body && chSs c [0, 1, 2] saLet body
  | _ => false
def isL (c : Ct) : List Str → List Expr → Bool
  | [], [] => true
  | n :: ns, .Call (.Name f _) [.Name y _, .Name x _] [] _ :: es => decide (f = ("isinstance" : Str)) && c.bi f && decide (y = ("caught" : Str)) && decide (x = n) && c.gl x && isL c ns es
  | _, _ => false
def caK1 (c : Ct) (ns : List Str) : Stmt → Bool
  | .Assign [.Name y _] (.List es _) _ => decide (y = ("kinds" : Str)) && isL c ns es
  | _ => false
def caK2 (c : Ct) (ns : List Str) : Stmt → Bool
  | .Assign [.Name y _] (.BinOp (.Name z p) .Add (.List es _) _) _ => decide (y = ("kinds" : Str)) && chE c (.var 3) (.Name z p) && isL c ns es
  | _ => false
def caRet (c : Ct) : Stmt → Bool
  | .Return (some (.IfExp t (.Tuple [a, .Attribute (.Name y _) f _] _ _) b _)) _ => chE c exTest t && notStar a && chE c exWord a && decide (y = ("caught" : Str)) && decide (f = ("value" : Str)) && chE c exOdd b
  | _ => false
def caB (c : Ct) : List Stmt → Bool
  | [s1, s2, s3, s4, s5, s6, s7, s8, s9] => nCa.all c.lcl && caNone s1 && caTry c s2 && caIf c s3 && caK1 c (names16.take 4) s4 && caK2 c ((names16.drop 4).take 4) s5 && caK2 c ((names16.drop 8).take 4) s6 && caK2 c (names16.drop 12) s7 && chS c [0, 1, 2] (.asg false 4 exWords) s8 && caRet c s9
  | _ => false
section
variable {X : Cx} {R : Rg} {C : Nat → Addr} {W : WX} {cf : CF}
/-- the caught error lies at a -/
structure Held (X : Cx) (R : Rg) (C : Nat → Addr) (cls : List Str) (i : Nat) (x : Str) (d : D) : Prop where
  ex : ∃ (a dd : Addr) (v : V), 1 ∈ R.nas ∧ R.σb[1]? = some (some (.ref a)) ∧ R.B a = some (ExV (C i) dd a) ∧ ¬ R.A a ∧ R.B dd = some (.xd [(("value" : Str), v)]) ∧ ¬ R.A dd ∧ Dq X.K NF R.Bs v d
  cl : cls[i]? = some x
theorem Held.at_ {cls : List Str} {i : Nat} {x : Str} {d : D} (h : Held X R C cls i x d) : ∃ (a dd : Addr) (v : V), ∀ {σ : L2.St} {δ : Envr} {Hs H : Hp}, Wd X.K R σ δ Hs H → σ[1]? = some (some (.ref a)) ∧ H a = some (ExV (C i) dd a) ∧ H dd = some (.xd [(("value" : Str), v)]) ∧ Dq X.K R.N Hs v d := by
  obtain ⟨a, dd, v, h1, h2, h3, h4, h5, h6, h7⟩ := h.ex
  refine ⟨a, dd, v, fun {σ δ Hs H} w => ⟨?_, ?_, ?_, (h7.base fun b z => z.elim).mono w.bs⟩⟩
  · rw [w.kp 1 h1]; exact h2
  · rcases w.fr a _ h3 h4 with q | ⟨⟨ps, q⟩, _⟩
    · exact q
    · unfold ExV at q; cases q
  · rcases w.fr dd _ h5 h6 with q | ⟨⟨ps, q⟩, _⟩
    · exact q
    · cases q
theorem s_isV {c : Ct} {cls : List Str} {LE : Addr} {i : Nat} {x z : Str} {d : D} {f y : Str} {p p1 p2 pos : Pos} (k : CtOk c X C W cf) (hN : c.N = nCa) (hl : nCa.all c.lcl = true) (EO : ErrOk X.K X.mg C cls LE) (hd : Held X R C cls i x d) (hf : f = ("isinstance" : Str)) (hb : c.bi f = true) (hy : y = ("caught" : Str)) (hz : z ∈ names16) (hg : c.gl z = true) :
    PE X (.Call (.Name f p) [.Name y p1, .Name z p2] [] pos) (tE X.K R C W (ev cf (.bl (decide (x = z))))) := by
  subst hf hy
  obtain ⟨g1, g2, g3, g4⟩ := k.bi hb
  obtain ⟨z1, z2⟩ := k.gl hg
  have hlc : X.env.scope.names.lookup ("caught" : Str) = some .local := lcl_of k (List.all_eq_true.mp hl _ (by decide))
  obtain ⟨j, hj⟩ := List.mem_iff_getElem?.mp (EO.all z hz)
  obtain ⟨m1, m2, m3, m4, m5, m6⟩ := EO.cl i x hd.cl
  obtain ⟨n1, _⟩ := EO.cl j z hj
  obtain ⟨a, dd, v, H0⟩ := hd.at_
  refine (pe_callB call_isV g1 g2 boot_isinstance (pa_cons (pe_var (i := 1) (by rw [k.N, hN]; rfl) (.inl hlc) (by decide) (by decide)) (pa_cons (pe_glob (v := .ref (C j)) z1 n1 rfl z2) pa_nil)) g3 g4).mono fun σ H Q ⟨Hs, δ, wd, h⟩ => ?_
  obtain ⟨q1, q2, q3, q4⟩ := H0 wd
  rw [ev] at h
  exact ⟨.ref a, q1, a, dd, C i, _, .ref (C j), .ref (C j), decide (x = z), rfl, m2, q2, q3, fun u r => r, m6 j z hj, h _ Hs H (.of_val .refl wd (.bl _))⟩
theorem l_isV {c : Ct} {cls : List Str} {LE : Addr} {i : Nat} {x : Str} {d : D} (k : CtOk c X C W cf) (hN : c.N = nCa) (hl : nCa.all c.lcl = true) (EO : ErrOk X.K X.mg C cls LE) (hd : Held X R C cls i x d) : ∀ {ns : List Str} {es : List Expr}, (∀ z ∈ ns, z ∈ names16) → isL c ns es = true → PA X es (tAD X.K R C W (evD cf (blsOf x ns)))
  | [], [], _, _ => d_nil
  | [], _ :: _, _, h => by simp [isL] at h
  | n :: ns, [], _, h => by simp [isL] at h
  | n :: ns, e :: es, hn, h => by
    unfold isL at h
    split at h
    · rename_i q1 _; cases q1
    · rename_i heq1 heq2
      cases heq1
      cases heq2
      obtain ⟨h, h6⟩ := ba h
      obtain ⟨h, h5⟩ := ba h
      obtain ⟨h, h4⟩ := ba h
      obtain ⟨h, h3⟩ := ba h
      obtain ⟨h1, h2⟩ := ba h
      have h4 := of_decide_eq_true h4
      subst h4
      exact d_cons (fun _ _ z => by cases z) (s_isV k hN hl EO hd (of_decide_eq_true h1) h2 (of_decide_eq_true h3) (hn _ List.mem_cons_self) h5) (l_isV k hN hl EO hd (fun z hz => hn z (List.mem_cons_of_mem _ hz)) h6)
    · cases h
theorem s_valV {c : Ct} {cls : List Str} {LE : Addr} {i : Nat} {x f y : Str} {d : D} {p1 pos : Pos} (k : CtOk c X C W cf) (hN : c.N = nCa) (hl : nCa.all c.lcl = true) (EO : ErrOk X.K X.mg C cls LE) (hd : Held X R C cls i x d) (hy : y = ("caught" : Str)) (hf : f = ("value" : Str)) : PE X (.Attribute (.Name y p1) f pos) (tE X.K R C W (ev cf (.cst 0 d))) := by
  subst hf hy
  have hlc : X.env.scope.names.lookup ("caught" : Str) = some .local := lcl_of k (List.all_eq_true.mp hl _ (by decide))
  obtain ⟨m1, m2, m3, m4, m5, m6⟩ := EO.cl i x hd.cl
  obtain ⟨a, dd, v, H0⟩ := hd.at_
  refine (pe_xv (pe_var (i := 1) (by rw [k.N, hN]; rfl) (.inl hlc) (by decide) (by decide)) rfl).mono fun σ H Q ⟨Hs, δ, wd, h⟩ => ?_
  obtain ⟨q1, q2, q3, q4⟩ := H0 wd
  rw [ev] at h
  exact ⟨.ref a, q1, a, dd, C i, _, v, rfl, m3, m4, q2, q3, rfl, h v Hs H (.of_val .refl wd q4)⟩
/-- `caught is None`, an error caught -/
theorem op_isE {a : Addr} : OpR X (compareOp .Is) (fun x y H Q => x = .ref a ∧ y = .non ∧ Q (.bl false) H) := by
  intro pins s σ H x y v u Q I rx ry ⟨h1, h2, h3⟩
  subst h1 h2
  obtain rfl : v = Value.ref a := rx
  obtain rfl : u = Value.none := ry
  exact wpAny_is_plain rfl (by rw [show (Value.ref a == Value.none) = false from by simp]; exact ⟨.bl _, H, I, rfl, h3⟩)
theorem t_isE {c : Ct} {cls : List Str} {i n : Nat} {x y : Str} {d : D} {p1 p2 p3 : Pos} (k : CtOk c X C W cf) (hN : c.N = nCa) (hl : nCa.all c.lcl = true) (hd : Held X R C cls i x d) (hy : y = ("caught" : Str)) : PT X (.Compare (.Name y p1) [.Is] [.Constant .none n p2] p3) (tT X.K R C W (ev cf (.bl false) >>= truM)) := by
  subst hy
  have hlc : X.env.scope.names.lookup ("caught" : Str) = some .local := lcl_of k (List.all_eq_true.mp hl _ (by decide))
  obtain ⟨a, dd, v, H0⟩ := hd.at_
  refine (pt_cmpR (op_isE (a := a)) (pe_var (i := 1) (by rw [k.N, hN]; rfl) (.inl hlc) (by decide) (by decide)) pe_non rfl).mono fun σ H Q ⟨Hs, δ, wd, h⟩ => ?_
  obtain ⟨q1, _⟩ := H0 wd
  rw [ev, bindP] at h
  exact ⟨.ref a, q1, rfl, rfl, false, rfl, truM_bl h Hs H wd .refl⟩
end
end Rf
set_option linter.all false
set_option maxRecDepth 100000
set_option maxHeartbeats 4000000
set_option Elab.async false
/-! Rf: `_law_caught`'s tail, run. -/
namespace Rf
open PySem PySem.Spec PyProof.Rows L2 LamX
/-- the end of a tail -/
def outD : Res Out → Option D
  | .ok (.ret (.fz e)) _ => some e
  | _ => none
theorem tail_at {cf : CF} {β : Envr} {d : D} : ∀ p ∈ words16, outD (execs cf β (tailOf p.1 d) [.un, .un, .un, .un, .un]) = some (.tup [.str p.2, d]) := by
  intro p hp
  simp only [words16, List.mem_cons, List.not_mem_nil, or_false] at hp
  rcases hp with rfl | rfl | rfl | rfl | rfl | rfl | rfl | rfl | rfl | rfl | rfl | rfl | rfl | rfl | rfl | rfl
  all_goals kernel_rfl
theorem tail_run {cf : CF} {β : Envr} {x t : Str} {d : D} (h : words16.lookup x = some t) : ∃ δ', execs cf β (tailOf x d) [.un, .un, .un, .un, .un] = .ok (.ret (.fz (.tup [.str t, d]))) δ' := by
  have e := tail_at (cf := cf) (β := β) (d := d) _ (PySem.mem_of_lookup h)
  unfold outD at e
  split at e
  · rename_i e' δ' q
    cases e
    exact ⟨δ', q⟩
  · cases e
def stLet : Rf.St := .ite (.cmp .is_ (.var 1) .non) saLet .nil
theorem let_run {cf : CF} {β : Envr} : exec cf β stLet [.un, .sh .non, .un, .un, .un] = .ok (.ret (.fz (.tup [.str "let", .non]))) [.un, .sh .non, .un, .un, .un] := by kernel_rfl
section
variable {X : Cx} {C : Nat → Addr} {W : WX} {cf : CF}
theorem pss_or {ss : List Stmt} {t u : TS} (h1 : PSs X ss t) (h2 : PSs X ss u) : PSs X ss (fun D σ H => t D σ H ∨ u D σ H) := ⟨fun pins s σ H D I h => h.elim (h1.run pins s σ H D I) (h2.run pins s σ H D I)⟩
theorem pss_no {ss : List Stmt} : PSs X ss (fun _ _ _ => False) := ⟨fun _ _ _ _ _ _ h => h.elim⟩
theorem pss_ex {α : Type} {ss : List Stmt} {t : α → TS} (h : ∀ a, PSs X ss (t a)) : PSs X ss (fun D σ H => ∃ a, t a D σ H) := ⟨fun pins s σ H D I ⟨a, q⟩ => (h a).run pins s σ H D I q⟩
theorem pss_and {p : Prop} {ss : List Stmt} {t : TS} (h : p → PSs X ss t) : PSs X ss (fun D σ H => p ∧ t D σ H) := ⟨fun pins s σ H D I ⟨a, q⟩ => (h a).run pins s σ H D I q⟩
variable {R : Rg}
/-- nothing was caught -/
theorem tail_let {c : Ct} {s3 : Stmt} {rest : List Stmt} (k : CtOk c X C W cf) (hp : PassesOwn (model X.prog X.w) X.A X.env X.xe) (h3 : caIf c s3 = true) (hR : R.nas = []) (hg : c.rg = true → RgOk X.K R) : PSs X (s3 :: rest) (fun D σ H => tS X.K R C W (exec cf R.β stLet) { D with nx := fun _ _ => False } σ H) := by
  unfold caIf at h3
  split at h3
  · obtain ⟨h3, h4⟩ := ba h3
    obtain ⟨h3, h5⟩ := ba h3
    obtain ⟨h1, h2⟩ := ba h3
    exact pss_cons (s_if (e_ok cf _ _ c h2 X C W k R).2 (ss_ok cf _ _ c [] h5 X C W k hp R hR hg) ss_nil) (pss_no (X := X) (ss := rest))
  · cases h3
theorem s_k1 {c : Ct} {cls : List Str} {LE : Addr} {i : Nat} {x : Str} {d : D} {ns : List Str} {s : Stmt} (k : CtOk c X C W cf) (hN : c.N = nCa) (hl : nCa.all c.lcl = true) (EO : ErrOk X.K X.mg C cls LE) (hd : Held X R C cls i x d) (hR : R.nas = [0, 1, 2]) (hn : ∀ z ∈ ns, z ∈ names16) (hlen : (blsOf x ns).len ≤ lim) (h : caK1 c ns s = true) : PS X s (tS X.K R C W (exec cf R.β (.asg false 3 (.lst (blsOf x ns))))) := by
  unfold caK1 at h
  split at h
  · obtain ⟨h1, h2⟩ := ba h
    have h1 := of_decide_eq_true h1
    subst h1
    have hk : X.env.scope.names.lookup ("kinds" : Str) = some .local := lcl_of k (List.all_eq_true.mp hl _ (by decide))
    exact s_asg k.nd (by rw [k.N, hN]; rfl) (.inl hk) (.inr hk) (by rw [hR]; decide) rfl (s_lst hlen (l_isV k hN hl EO hd hn h2))
  · cases h
theorem s_k2 {c : Ct} {cls : List Str} {LE : Addr} {i : Nat} {x : Str} {d : D} {ns : List Str} {s : Stmt} (k : CtOk c X C W cf) (hN : c.N = nCa) (hl : nCa.all c.lcl = true) (EO : ErrOk X.K X.mg C cls LE) (hd : Held X R C cls i x d) (hR : R.nas = [0, 1, 2]) (hn : ∀ z ∈ ns, z ∈ names16) (hlen : (blsOf x ns).len ≤ lim) (h : caK2 c ns s = true) : PS X s (tS X.K R C W (exec cf R.β (.asg false 3 (.bin .add (.var 3) (.lst (blsOf x ns)))))) := by
  unfold caK2 at h
  split at h
  · obtain ⟨h, h2⟩ := ba h
    obtain ⟨h1, h3⟩ := ba h
    have h1 := of_decide_eq_true h1
    subst h1
    have hk : X.env.scope.names.lookup ("kinds" : Str) = some .local := lcl_of k (List.all_eq_true.mp hl _ (by decide))
    exact s_asg k.nd (by rw [k.N, hN]; rfl) (.inl hk) (.inr hk) (by rw [hR]; decide) rfl (s_bin (op := .add) (e_ok cf _ _ c h3 X C W k R).1 (s_lst hlen (l_isV k hN hl EO hd hn h2)))
  · cases h
theorem s_caRet {c : Ct} {cls : List Str} {LE : Addr} {i : Nat} {x : Str} {d : D} {s : Stmt} (k : CtOk c X C W cf) (hN : c.N = nCa) (hl : nCa.all c.lcl = true) (EO : ErrOk X.K X.mg C cls LE) (hd : Held X R C cls i x d) (h : caRet c s = true) : PS X s (tS X.K R C W (exec cf R.β (.ret (.ite exTest (.tup (.cons exWord (.cons (.cst 0 d) .nil))) exOdd)))) := by
  unfold caRet at h
  split at h
  · obtain ⟨h, h6⟩ := ba h
    obtain ⟨h, h5⟩ := ba h
    obtain ⟨h, h4⟩ := ba h
    obtain ⟨h, h3⟩ := ba h
    obtain ⟨h1, h2⟩ := ba h
    exact s_ret (s_ite (e_ok cf _ _ c h1 X C W k R).2 (s_tup (by show 2 ≤ lim; decide) (d_cons (nS h2) (e_ok cf _ _ c h3 X C W k R).1 (d_cons (fun _ _ z => by cases z) (s_valV k hN hl EO hd (of_decide_eq_true h4) (of_decide_eq_true h5)) d_nil))) (e_ok cf _ _ c h6 X C W k R).1)
  · cases h
/-- an error was caught -/
theorem tail_err {c : Ct} {cls : List Str} {LE : Addr} {i : Nat} {x : Str} {d : D} {s3 s4 s5 s6 s7 s8 s9 : Stmt} (k : CtOk c X C W cf) (hp : PassesOwn (model X.prog X.w) X.A X.env X.xe) (hN : c.N = nCa) (hl : nCa.all c.lcl = true) (EO : ErrOk X.K X.mg C cls LE) (hd : Held X R C cls i x d) (hR : R.nas = [0, 1, 2]) (hg : c.rg = true → RgOk X.K R)
    (h3 : caIf c s3 = true) (h4 : caK1 c (names16.take 4) s4 = true) (h5 : caK2 c ((names16.drop 4).take 4) s5 = true) (h6 : caK2 c ((names16.drop 8).take 4) s6 = true) (h7 : caK2 c (names16.drop 12) s7 = true) (h8 : chS c [0, 1, 2] (.asg false 4 exWords) s8 = true) (h9 : caRet c s9 = true) :
    PSs X [s3, s4, s5, s6, s7, s8, s9] (tS X.K R C W (execs cf R.β (tailOf x d))) := by
  have b4 : ∀ ns : List Str, ns.length ≤ 16 → (blsOf x ns).len ≤ lim := fun ns h => by
    have e : ∀ ns : List Str, (blsOf x ns).len = ns.length := fun ns => by
      induction ns with
      | nil => rfl
      | cons y r ih => show (blsOf x r).len + 1 = _; rw [ih]; rfl
    rw [e]; unfold lim; omega
  have hs3 : PS X s3 (tS X.K R C W (exec cf R.β (.ite (.bl false) saLet .nil))) := by
    unfold caIf at h3
    split at h3
    · obtain ⟨h3, q4⟩ := ba h3
      obtain ⟨h3, q5⟩ := ba h3
      obtain ⟨q1, q2⟩ := ba h3
      exact s_if (t_isE k hN hl hd (of_decide_eq_true q1)) (ss_ok cf _ _ c [0, 1, 2] q4 X C W k hp R hR hg) ss_nil
    · cases h3
  exact ss_cons hs3 (ss_cons (s_k1 k hN hl EO hd hR (fun z hz => List.mem_of_mem_take hz) (b4 _ (by decide)) h4) (ss_cons (s_k2 k hN hl EO hd hR (fun z hz => List.mem_of_mem_drop (List.mem_of_mem_take hz)) (b4 _ (by decide)) h5)
    (ss_cons (s_k2 k hN hl EO hd hR (fun z hz => List.mem_of_mem_drop (List.mem_of_mem_take hz)) (b4 _ (by decide)) h6) (ss_cons (s_k2 k hN hl EO hd hR (fun z hz => List.mem_of_mem_drop hz) (b4 _ (by decide)) h7) (ss_cons (st_ok cf _ _ c [0, 1, 2] h8 X C W k hp R hR hg) (ss_cons (s_caRet k hN hl EO hd h9) ss_nil))))))
end
end Rf
set_option linter.all false
set_option maxRecDepth 100000
set_option maxHeartbeats 4000000
set_option Elab.async false
/-! Rf: `_law_caught`, walked. -/
namespace Rf
open PySem PySem.Spec PyProof.Rows L2 LamX
def CaEnd (K : Fg) (Q : VK) (t : Str) (v : V) (H : Hp) : Prop :=
  ∃ (Hs : Hp) (d : D), Gd K Hs H ∧ Dq K NF Hs v d.age ∧ ∀ vt Hs' H', Frm K Hs H Hs' H' → Dq K NF Hs' vt (.tup [.str t, d.age]) → Q vt H'
def CaP (P : Program) (w : World) (K : Fg) (mg : Str → Option Value) (base : Heap) (k : Nat) (C : Nat → Addr) (ws : List Str) (fc : Addr) : Prop :=
  ∀ (Z : Around) (out : List Env) (s : Shared) (H : Hp) (fs : List Addr) (H1 : Hp) (h1 : Heap) (f : Addr) (T : XK → Hp → VK → Prop) (Q : VK) (E : XK),
    NoGd Z → Room (k + 2) Z → Env0 P w K mg base Z out s H → Acts P w K mg base k fs H1 h1 f T → Un fs [] H1 H h1 s.heap → (∀ x ∈ frs out, x ∈ fs ∨ h1.get? x = none) → (∀ x ∈ fs, x ∈ frs out) →
    (∀ (E' : XK) (Q' : VK), (∀ v H', CaEnd K Q "let" .non H' → Q' v H') → (∀ (c : Nat) (t : Str) (a : Addr) (v : V) (H' : Hp), ws[c]? = some t → H' a = some (.xd [(("value" : Str), v)]) → CaEnd K Q t v H' → E' (.ref (C c)) (some a) H') → T E' H Q') →
    codeAny (model P w) Z (.call (.ref fc) ⟨[.ref f], []⟩) (CR (L2.CX P w) out P w H s Q E) s
/-- the checker's table for a def's frame in which no def of the program is called -/
def ctCa (st : Stmt) (free : List Str) : Ct := { N := nCa, sc := defScope st, fns := [], cls := [], gis := [], free := free, fnl := nCa, kws := [] }
def caOk (free : List Str) (st : Stmt) : Bool := scopeC nCa ["call"] (defScope st) && caB (ctCa st free) (defBody st)
theorem word_at : ∀ x ∈ names16, words16.lookup x = some (wordOf x) := by decide +kernel
theorem tup_nf {K : Fg} {N : Addr → Prop} {Hs : Hp} {v : V} {t : Str} {d : D} (h : Dq K N Hs v (.tup [.str t, d.age])) : Dq K NF Hs v (.tup [.str t, d.age]) := by
  have h2 := h.nf
  simp only [D.age, D.ages, D.age_age] at h2
  exact h2
theorem caughtS {σ : L2.St} {a : Addr} {f : Addr} : ((([some (V.ref f), some V.non, none, none, none] : L2.St).set 2 (some (.ref a))).set 1 (some (.ref a))).set 2 none = [some (V.ref f), some (.ref a), none, none, none] := rfl
theorem caught_ok {P : Program} {w : World} {K : Fg} {mg : Str → Option Value} {base : Heap} {k : Nat} {C : Nat → Addr} {cls free : List Str} {LE fc : Addr} {fd : FuncData} {st : Stmt} (F : FunD K "_law_caught" "_law_caught" (defArgs st) (defBody st) (defScope st) [] [] fc fd) (B : Binds K fd ["call"] []) (hc : caOk free st = true) (EO : ErrOk K mg C cls LE) (hfree : ∀ x ∈ free, mg x = none) :
    CaP P w K mg base k C (cls.map wordOf) fc := by
  intro Z out s H fs H1 h1 f T Q E hgd hr e0 A un su1 su2 hT
  unfold caOk at hc
  obtain ⟨c1, c2⟩ := ba hc
  have S := scope_ok c1
  obtain ⟨oc, od, dV, kV, doc, pm, an, cdv, ct, osl, rfl, lk, hcd, _, _⟩ := F.ex
  have kin : K.In s.heap := e0.mod.kin.keeps fun b o e => (e0.bs b o e).1
  have hbt := bt_all (X := cxOf (L2.CX P w) P w K mg base nCa "_law_caught" (defScope st) fc cdv Z out s H E) (us := [.ref f]) B kin rfl
  refine run_ofS (CX := L2.CX P w) (N := nCa) (ps := ["call"]) (us := [.ref f]) (vs := [.ref f]) lk hcd S hr e0 hbt (.cons rfl .nil) rfl fun hr' => ?_
  generalize hX : cxOf (L2.CX P w) P w K mg base nCa "_law_caught" (defScope st) fc cdv Z out s H E = X at *
  have k0 : CtOk (ctCa st free) X C (fun cls d _ H => E cls d H) (fun _ _ => .bad 0) := by
    subst hX
    exact {
      N := rfl
      nd := S.nd
      sc := rfl
      calm := rfl
      lvl := ⟨k + 1, hr', (fun i x (h : ([] : List Str)[i]? = some x) => by simp at h), (fun (z : false = true) => nomatch z), fun al (h : none = some al) => nomatch h⟩
      cl := fun i x (h : ([] : List Str)[i]? = some x) => by simp at h
      gi := fun n x i (h : ([] : List (Str × Int))[n]? = some (x, i)) => by simp at h
      free := hfree
      tk := takes_of rfl rfl rfl rfl
      gd := hgd
      fnl := fun _ _ => rfl
      tab := fun (z : false = true) => nomatch z }
  have hp : PassesOwn (model X.prog X.w) X.A X.env X.xe := by subst hX; exact passes_of rfl
  generalize hb : defBody st = body at *
  unfold caB at c2
  split at c2
  rotate_left
  · cases c2
  rename_i s1 s2 s3 s4 s5 s6 s7 s8 s9
  obtain ⟨c2, b9⟩ := ba c2
  obtain ⟨c2, b8⟩ := ba c2
  obtain ⟨c2, b7⟩ := ba c2
  obtain ⟨c2, b6⟩ := ba c2
  obtain ⟨c2, b5⟩ := ba c2
  obtain ⟨c2, b4⟩ := ba c2
  obtain ⟨c2, b3⟩ := ba c2
  obtain ⟨c2, b2⟩ := ba c2
  obtain ⟨bl, b1⟩ := ba c2
  have loc : ∀ x ∈ nCa, X.env.scope.names.lookup x = some .local := fun x hx => lcl_of k0 (List.all_eq_true.mp bl x hx)
  have lcall := loc "call" (by decide)
  have lcau := loc "caught" (by decide)
  have le_ := loc "e" (by decide)
  -- caught = None
  have h1 : PS X s1 (fun D σ H => D.nx (σ.set 1 (some .non)) H) := by
    unfold caNone at b1
    split at b1
    · have b1 := of_decide_eq_true b1
      subst b1
      exact ps_set (i := 1) k0.nd (by rw [k0.N]; rfl) (.inl lcau) pe_non rfl (.inr lcau)
    · cases b1
  -- the try
  have h2 : PS X s2 (fun D σ H => σ[0]? = some (some (.ref f)) ∧ T (WE (wKp K (.ref LE) 2 1 (fun cls d _ H => E cls d H) D) σ) H (fun v H' => D.nx σ H')) := by
    unfold caTry at b2
    split at b2
    rotate_left
    · cases b2
    obtain ⟨b2, q6⟩ := ba b2
    obtain ⟨b2, q5⟩ := ba b2
    obtain ⟨b2, q4⟩ := ba b2
    obtain ⟨b2, q3⟩ := ba b2
    obtain ⟨q1, q2⟩ := ba b2
    have q1 := of_decide_eq_true q1
    have q2 := of_decide_eq_true q2
    have q4 := of_decide_eq_true q4
    have q5 := of_decide_eq_true q5
    have q6 := of_decide_eq_true q6
    subst q1 q2 q4 q5 q6
    obtain ⟨g1, g2⟩ := k0.gl q3
    have hN := k0.N
    have hnd := k0.nd
    subst hX
    refine (ps_try_kept (Wout := fun cls d _ H => E cls d H) (c := .ref LE) (i := 2) (j := 1) (tb := fun W D σ H => σ[0]? = some (some (.ref f)) ∧ T (WE W σ) H (fun v H' => D.nx σ H')) rfl rfl rfl hnd (by rw [hN]; rfl) le_ (by rw [hN]; rfl) lcau ⟨g1, g2, .inl EO.le⟩ k0.tk (by decide) (by decide) fun W pn xe tk hpo => ?_)
    refine pss_one (ps_expr (pe_actA (k := k) (i := 0) A hr' hgd (fun pins σ H' s' I => un_more un I.base su1 su2) tk rfl (.inl lcall) (by decide) (by decide)) rfl)
  have hrest := pss_or
    (pss_ex fun q : Hp × Hp => tail_let (R := calmR [some (.ref f), some .non, none, none, none] [] [] q.1 q.2) (rest := [s4, s5, s6, s7, s8, s9]) k0 hp b3 rfl (fun (z : false = true) => nomatch z))
    (pss_ex fun q : Nat × Str × D × Hp × Hp × Addr => pss_and fun hd : Held X (calmR [some (.ref f), some (.ref q.2.2.2.2.2), none, none, none] [] [0, 1, 2] q.2.2.2.1 q.2.2.2.2.1) C cls q.1 q.2.1 q.2.2.1 => tail_err k0 hp rfl bl (by subst hX; exact EO) hd rfl (fun (z : false = true) => nomatch z) b3 b4 b5 b6 b7 b8 b9)
  refine ⟨_, pss_cons h1 (pss_cons h2 hrest), ?_⟩
  have hK : X.K = K := by subst hX; rfl
  have noow : ∀ {l : Envr}, (∀ s ∈ l, ∀ ds, s ≠ SV.ow ds) → ∀ (i : Nat) (ds : List D), l[i]? ≠ some (.ow ds) := fun h i ds e => h _ (List.mem_of_getElem? e) ds rfl
  refine ⟨rfl, hT _ _ (fun v H' ⟨Hs, d, gd, hd, fin⟩ => .inl ⟨(Hs, H'), Hs, [.un, .sh .non, .un, .un, .un], ?_, ?_⟩) fun c t a v H' hws hxd ⟨Hs, d, gd, hd, fin⟩ => ?_⟩
  · rw [hK]
    refine gd.wd rfl (noow (by simp)) fun i d e => ?_
    match i, e with
    | 1, e => cases (Option.some.inj e); exact ⟨.non, rfl, .non⟩
    | 0, e => cases (Option.some.inj e)
    | 2, e => cases (Option.some.inj e)
    | 3, e => cases (Option.some.inj e)
    | 4, e => cases (Option.some.inj e)
    | _ + 5, e => simp at e
  · rw [let_run]
    intro vt σ' Hs' H'' w' rs
    rw [hK] at w' rs
    have ed : d.age = .non := by
      generalize d.age = e at hd
      cases hd
      rfl
    rw [ed] at fin
    exact fin vt Hs' H'' w'.frm (tup_nf (d := .non) rs)
  · rw [List.getElem?_map] at hws
    obtain ⟨x, hx, rfl⟩ := Option.map_eq_some_iff.mp hws
    obtain ⟨m1, m2, m3, m4, m5, m6⟩ := EO.cl c x hx
    refine ⟨true, m5, fun _ => ⟨C c, a, rfl, rfl, fun a' ha' => .inr ⟨(c, x, d.age, Hs, upd H' a' (ExV (C c) a a'), a'), ⟨⟨a', a, v, (show 1 ∈ ([0, 1, 2] : List Nat) by decide), rfl, upd_same, fun z => z.elim, ?_, fun z => z.elim, by rw [hK]; exact hd⟩, hx⟩, Hs, [.un, .un, .un, .un, .un], ?_, ?_⟩⟩, fun z => nomatch z⟩
    · show upd H' a' (ExV (C c) a a') a = _
      rw [upd_ne (fun z => by rw [z, ha'] at hxd; cases hxd)]; exact hxd
    · rw [hK]
      exact ((gd.newO ha' fun ps z => by unfold ExV at z; cases z).gd).wd rfl (noow (by simp)) fun i d e => by
        match i, e with
        | 0, e => cases (Option.some.inj e)
        | 1, e => cases (Option.some.inj e)
        | 2, e => cases (Option.some.inj e)
        | 3, e => cases (Option.some.inj e)
        | 4, e => cases (Option.some.inj e)
        | _ + 5, e => simp at e
    · obtain ⟨δ', e⟩ := tail_run (cf := fun _ _ => FR.bad 0) (β := (calmR [some (.ref f), some (.ref a'), none, none, none] [] [0, 1, 2] Hs (upd H' a' (ExV (C c) a a'))).β) (d := d.age) (word_at x (EO.sub x (List.mem_of_getElem? hx)))
      rw [e]
      intro vt σ' Hs' H'' w' rs
      rw [hK] at w' rs
      exact fin vt Hs' H'' ((gd.newO ha' fun ps z => by unfold ExV at z; cases z).trans w'.frm) (tup_nf rs)
end Rf
set_option linter.all false
set_option maxRecDepth 100000
set_option maxHeartbeats 4000000
set_option Elab.async false
/-! Rf: `_law_refused`, walked. -/
namespace Rf
open PySem PySem.Spec PyProof.Rows L2 LamX
def nRe : List Str := ["call", "word", "value", "told"]
def exEnd (al : Nat) : Ex := .bop true (.cons (.cmp .eq (.idx (.var 3) (.int 0)) (.var 1)) (.cons (.call al [] (.cons (.idx (.var 3) (.int 1)) (.cons (.var 2) .nil))) .nil))
def reCall (c : Ct) : Stmt → Bool
  | .Assign [.Name y _] (.Call (.Name g _) [.Name x _] [] _) _ => decide (y = ("told" : Str)) && decide (g = ("_law_caught" : Str)) && c.gl g && decide (x = ("call" : Str))
  | _ => false
def reB (c : Ct) (al : Nat) : List Stmt → Bool
  | [s1, s2] => nRe.all c.lcl && reCall c s1 && chS c [] (.ret (exEnd al)) s2
  | _ => false
def ctRe (st : Stmt) (fns free : List Str) : Ct := { N := nRe, sc := defScope st, fns := fns, cls := [], gis := [], free := free, fnl := nRe, kws := [] }
def reOk (fns free : List Str) (al : Nat) (st : Stmt) : Bool := scopeC nRe ["call", "word", "value"] (defScope st) && reB (ctRe st fns free) al (defBody st)
theorem age2 (d : D) : d.age.age = d.age := D.age_age d
theorem end_run {cf : CF} {β : Envr} {al : Nat} {t : Str} {d dw dv : D} {b : Bool} (h : refV cf al t d dw dv = some b) : ∃ δ', exec cf β (.ret (exEnd al)) [.un, .sh dw.age, .sh dv.age, .sh (.tup [.str t, d.age])] = .ok (.ret (.fz (.bl b))) δ' := by
  generalize hδ : ([.un, .sh dw.age, .sh dv.age, .sh (.tup [.str t, d.age])] : Envr) = δ
  have e1 : ev cf (.cmp .eq (.idx (.var 3) (.int 0)) (.var 1)) δ = (match co_eq (.str t) dw.age with | some r => .ok (.fz (.bl r)) δ | none => .bad 13) := by
    subst hδ
    have g : getIx (.tup [.str t, d.age]) (.int 0) = some (.str t) := rfl
    simp only [ev, bind, M.bind, rdM, Rf.rd, ofO, COp.run, pure, List.getElem?_cons_zero, List.getElem?_cons_succ, g]
    cases co_eq (.str t) dw.age <;> rfl
  have e2 : ev cf (.call al [] (.cons (.idx (.var 3) (.int 1)) (.cons (.var 2) .nil))) δ = callF cf al [.v d.age, .v dv.age] δ := by
    subst hδ
    rfl
  have e3 : ev cf (exEnd al) δ = (match co_eq (.str t) dw.age with | some true => callF cf al [.v d.age, .v dv.age] δ | some false => .ok (.fz (.bl false)) δ | none => .bad 13) := by
    unfold exEnd
    rw [ev, evB, evB]
    · show M.bind (ev cf _) _ δ = _
      unfold M.bind
      rw [e1]
      cases co_eq (.str t) dw.age with
      | none => rfl
      | some r =>
        cases r with
        | false => rfl
        | true => rw [← e2]; rfl
    · intro z; cases z
  have e4 : exec cf β (.ret (exEnd al)) δ = (match ev cf (exEnd al) δ with | .ok r δ' => .ok (.ret r) δ' | .exn c d δ' => .exn c d δ' | .bad n => .bad n) := by
    rw [exec]
    show M.bind (ev cf (exEnd al)) _ δ = _
    unfold M.bind
    cases ev cf (exEnd al) δ <;> rfl
  rw [e4, e3]
  unfold refV at h
  cases q : co_eq (.str t) dw.age with
  | none => rw [q] at h; cases h
  | some r =>
    rw [q] at h
    cases r with
    | false => cases h; exact ⟨_, rfl⟩
    | true =>
      simp only at h ⊢
      have e5 : callF cf al [.v d.age, .v dv.age] δ = (match cf al [.sh d.age, .sh dv.age] with
        | .ret (.sl _) _ => .bad 49
        | .ret r ws => .ok r (putBack [.v d.age, .v dv.age] ws δ)
        | .exn c d2 ws => .exn c d2 (putBack [.v d.age, .v dv.age] ws δ)
        | .bad n => .bad n) := by
        have o : oneIo [.v d.age, .v dv.age] = true := rfl
        have g : argsSV δ [.v d.age, .v dv.age] = some [.sh d.age, .sh dv.age] := by
          show some [SV.sh d.age.age, SV.sh dv.age.age] = _
          rw [age2, age2]
        unfold callF
        rw [o, g]
        rfl
      rw [e5]
      cases z : cf al [.sh d.age, .sh dv.age] with
      | bad n => rw [z] at h; cases h
      | exn c d2 ws => rw [z] at h; cases h
      | ret r ws =>
        rw [z] at h
        cases r with
        | fz x =>
          cases x with
          | bl b' => cases h; exact ⟨_, rfl⟩
          | _ => cases h
        | _ => cases h
theorem refused_ok {P : Program} {w : World} {K : Fg} {mg : Str → Option Value} {base : Heap} {k al : Nat} {C : Nat → Addr} {ws fns free : List Str} {fc fr : Addr} {fd : FuncData} {st : Stmt} {cf : CF} (F : FunD K "_law_refused" "_law_refused" (defArgs st) (defBody st) (defScope st) [] [] fr fd) (B : Binds K fd ["call", "word", "value"] []) (hc : reOk fns free al st = true) (hfree : ∀ x ∈ free, mg x = none)
    (CP : CaP P w K mg base k C ws fc) (hm : mg "_law_caught" = some (.ref fc)) (hk : PySem.W.keepIn K (.ref fc) = true)
    (hf : ∀ (i : Nat) (x : Str), fns[i]? = some x → ∃ (fa : Addr) (fd : FuncData) (ps : List Str), mg x = some (.ref fa) ∧ FnG P w K mg base (L2.CX P w) k fa fd ps (spOf K C (cf i)) ∧ PySem.W.keepIn K (.ref fa) = true ∧ Binds K fd ps []) :
    RfP P w K mg base k C cf al ws fr := by
  intro Z out s H fs H1 h1 f T vw vv uw uv Q E hgd hr e0 A un su1 su2 rw_ rv_ hT
  unfold reOk at hc
  obtain ⟨c1, c2⟩ := ba hc
  have S := scope_ok c1
  obtain ⟨oc, od, dV, kV, doc, pm, an, cdv, ct, osl, rfl, lk, hcd, _, _⟩ := F.ex
  have kin : K.In s.heap := e0.mod.kin.keeps fun b o e => (e0.bs b o e).1
  have hbt := bt_all (X := cxOf (L2.CX P w) P w K mg base nRe "_law_refused" (defScope st) fr cdv Z out s H E) (us := [.ref f, uw, uv]) B kin rfl
  refine run_ofS (CX := L2.CX P w) (N := nRe) (ps := ["call", "word", "value"]) (us := [.ref f, uw, uv]) (vs := [.ref f, vw, vv]) lk hcd S hr e0 hbt (.cons rfl (.cons rw_ (.cons rv_ .nil))) rfl fun hr' => ?_
  generalize hX : cxOf (L2.CX P w) P w K mg base nRe "_law_refused" (defScope st) fr cdv Z out s H E = X at *
  have k0 : CtOk (ctRe st fns free) X C (fun cls d _ H => E cls d H) cf := by
    subst hX
    exact {
      N := rfl
      nd := S.nd
      sc := rfl
      calm := rfl
      lvl := ⟨k, hr'.mono (by omega), (fun i x hx => by
        obtain ⟨fa, fd, ps, q1, q2, q3, q4⟩ := hf i x hx
        exact ⟨fa, fd, ps, q1, q2, q3, q4, fun kw ks (h : (i, kw, ks) ∈ []) => by cases h⟩), (fun (z : false = true) => nomatch z), fun al (h : none = some al) => nomatch h⟩
      cl := fun i x (h : ([] : List Str)[i]? = some x) => by simp at h
      gi := fun n x i (h : ([] : List (Str × Int))[n]? = some (x, i)) => by simp at h
      free := hfree
      tk := takes_of rfl rfl rfl rfl
      gd := hgd
      fnl := fun _ _ => rfl
      tab := fun (z : false = true) => nomatch z }
  have hp : PassesOwn (model X.prog X.w) X.A X.env X.xe := by subst hX; exact passes_of rfl
  generalize hb : defBody st = body at *
  unfold reB at c2
  split at c2
  rotate_left
  · cases c2
  rename_i s1 s2
  obtain ⟨c2, b2⟩ := ba c2
  obtain ⟨bl, b1⟩ := ba c2
  have loc : ∀ x ∈ nRe, X.env.scope.names.lookup x = some .local := fun x hx => lcl_of k0 (List.all_eq_true.mp bl x hx)
  have lcall := loc "call" (by decide)
  have ltold := loc "told" (by decide)
  have h1 : PS X s1 (fun D σ Hc => σ[0]? = some (some (.ref f)) ∧ Hc = H ∧ ∀ (E' : XK) (Q' : VK), (∀ v H', CaEnd K (fun v H3 => D.nx (σ.set 3 (some v)) H3) "let" .non H' → Q' v H') → (∀ (c : Nat) (t : Str) (a : Addr) (v : V) (H' : Hp), ws[c]? = some t → H' a = some (.xd [(("value" : Str), v)]) → CaEnd K (fun v H3 => D.nx (σ.set 3 (some v)) H3) t v H' → E' (.ref (C c)) (some a) H') → T E' H Q') := by
    unfold reCall at b1
    split at b1
    rotate_left
    · cases b1
    obtain ⟨b1, q4⟩ := ba b1
    obtain ⟨b1, q3⟩ := ba b1
    obtain ⟨q1, q2⟩ := ba b1
    have q1 := of_decide_eq_true q1
    have q2 := of_decide_eq_true q2
    have q4 := of_decide_eq_true q4
    subst q1 q2 q4
    obtain ⟨g1, g2⟩ := k0.gl q3
    have pe : ∀ gp xp cp : Pos, PE X (.Call (.Name "_law_caught" gp) [.Name "call" xp] [] cp) (fun σ Hc Q2 => σ[0]? = some (some (.ref f)) ∧ Hc = H ∧ ∀ (E' : XK) (Q' : VK), (∀ v H', CaEnd K Q2 "let" .non H' → Q' v H') → (∀ (c : Nat) (t : Str) (a : Addr) (v : V) (H' : Hp), ws[c]? = some t → H' a = some (.xd [(("value" : Str), v)]) → CaEnd K Q2 t v H' → E' (.ref (C c)) (some a) H') → T E' H Q') := by
      intro gp xp cp
      have hN := k0.N
      have hv : Vis X.env.scope "call" := .inl lcall
      have tk := k0.tk
      subst hX
      refine ⟨fun pins s' σ Hc Q2 I ⟨hs, eH, hT2⟩ => ?_⟩
      subst eH
      refine wpAny_Call_Name_kw (ld_glob I g1 hm ?_ g2)
      refine PySem.W.callWith_K (h₀ := base) I.ok.mod.kin hk (thn ((pa_cons (pe_var (i := 0) (pos := xp) (by rw [hN]; rfl) hv (by decide) (by decide)) pa_nil).run cp pins s' σ Hc (fun vs H2 => vs = [.ref f] ∧ H2 = Hc) I ⟨.ref f, hs, rfl, rfl⟩) ?_) rfl rfl
      rintro us s2 ⟨vs, H2, I2, r, rfl, rfl⟩
      obtain rfl : us = [Value.ref f] := by
        cases r with
        | cons a b => cases b; cases a; rfl
      refine ⟨I2.kIn, ?_⟩
      refine wpAny_call (codeAny_mono (CP _ _ s2 H2 fs H1 h1 f T Q2 (WE (fun cls d _ H => E cls d H) σ) hgd hr' I2.env0 A (un_more un I2.base su1 su2) (fun x hx => ?_) (fun x hx => ?_) hT2) fun r s' hq => ?_)
      · obtain ⟨e, he, e2⟩ := List.mem_filterMap.mp hx
        rcases List.mem_cons.mp he with rfl | he
        · right
          cases e2
          cases z : h1.get? s.heap.objs.size with
          | none => first | exact z | rfl
          | some o =>
            obtain ⟨o', e'⟩ := un.there _ o z (by simp)
            exact absurd (Heap.lt_size e') (Nat.lt_irrefl _)
        · exact su1 x (List.mem_filterMap.mpr ⟨e, he, e2⟩)
      · obtain ⟨e, he, e2⟩ := List.mem_filterMap.mp (su2 x hx)
        exact List.mem_filterMap.mpr ⟨e, List.mem_cons_of_mem _ he, e2⟩
      · cases r with
        | error e => exact passAt tk σ pins H2 s2 e s' I2 hq
        | ok fl =>
          cases fl with
          | ret u => exact I2.after hq
          | next => exact hq.elim
          | brk => exact hq.elim
          | cont => exact hq.elim
    exact (ps_set (i := 3) k0.nd (by rw [k0.N]; rfl) (.inl ltold) (pe _ _ _) rfl (.inr ltold))
  have hK : X.K = K := by subst hX; rfl
  have hrest : PSs X [s2] (fun D σ H => ∃ q : V × Hp × Hp, tS X.K (calmR [some (.ref f), some vw, some vv, some q.1] [] [] q.2.1 q.2.2) C (fun cls d _ H => E cls d H) (execs cf [] (.cons (.ret (exEnd al)) .nil)) D σ H) := pss_ex fun q => ss_cons (R := calmR [some (.ref f), some vw, some vv, some q.1] [] [] q.2.1 q.2.2) (st_ok cf _ _ _ [] b2 X C _ k0 hp _ rfl (fun (z : false = true) => nomatch z)) ss_nil
  refine ⟨_, pss_cons h1 hrest, rfl, rfl, fun E' Q' hQ hE => ?_⟩
  have key : ∀ (t : Str) (v : V) (H' : Hp), RfEnd K cf al vw vv Q t v H' → CaEnd K (fun vt H3 => ∃ q : V × Hp × Hp, tS X.K (calmR [some (.ref f), some vw, some vv, some q.1] [] [] q.2.1 q.2.2) C (fun cls d _ H => E cls d H) (execs cf [] (.cons (.ret (exEnd al)) .nil)) { nx := fun _ H' => Q .non H', rt := Q } [some (.ref f), some vw, some vv, some vt] H3) t v H' := fun t v H' ⟨Hs, dw, dv, d, b, gd, hw, hv, hd, eb, fin⟩ => by
    refine ⟨Hs, d, gd, hd, fun vt Hs' H3 fm ht => ⟨(vt, Hs', H3), Hs', [.un, .sh dw.age, .sh dv.age, .sh (.tup [.str t, d.age])], ?_, ?_⟩⟩
    · rw [hK]
      refine fm.gd.wd rfl (fun i ds e => ?_) fun i d' e => ?_
      · match i, e with
        | 0, e => cases (Option.some.inj e)
        | 1, e => cases (Option.some.inj e)
        | 2, e => cases (Option.some.inj e)
        | 3, e => cases (Option.some.inj e)
        | _ + 4, e => simp at e
      · match i, e with
        | 0, e => cases (Option.some.inj e)
        | 1, e => cases (Option.some.inj e); exact ⟨vw, rfl, hw.mono fm.bs⟩
        | 2, e => cases (Option.some.inj e); exact ⟨vv, rfl, hv.mono fm.bs⟩
        | 3, e => cases (Option.some.inj e); exact ⟨vt, rfl, ht⟩
        | _ + 4, e => simp at e
    · obtain ⟨δ', e⟩ := end_run (β := []) eb
      have e2 : execs cf [] (.cons (.ret (exEnd al)) .nil) [.un, .sh dw.age, .sh dv.age, .sh (.tup [.str t, d.age])] = .ok (.ret (.fz (.bl b))) δ' := by
        rw [execs]
        show M.bind (exec cf [] (.ret (exEnd al))) _ _ = _
        unfold M.bind
        rw [e]
        rfl
      rw [e2]
      intro vt σ' Hs'' H'' w' rs
      rw [hK] at w' rs
      cases (show Dq K _ Hs'' vt (.bl b) from rs)
      exact fin Hs'' H'' (fm.trans w'.frm)
  exact hT E' Q' (fun v H' hh => hQ v H' (key "let" .non H' hh)) fun c t a v H' e1 e2 hh => hE c t a v H' e1 e2 (key t v H' hh)
end Rf
set_option linter.all false
set_option maxRecDepth 100000
set_option maxHeartbeats 4000000
set_option Elab.async false
/-! Rf: `_law_all_refused`, walked. -/
namespace Rf
open PySem PySem.Spec PyProof.Rows L2 LamX
def nRa : List Str := ["calls", "word", "value", "call"]
def ctRa (st : Stmt) (free : List Str) : Ct := { N := nRa, sc := defScope st, fns := [], cls := [], gis := [], free := free, fnl := nRa, kws := [] }
def raT (c : Ct) : Expr → Bool
  | .UnaryOp .Not (.Call (.Name g _) [.Name x p1, .Name y p2, .Name z p3] [] _) _ => decide (g = ("_law_refused" : Str)) && c.gl g && chE c (.var 3) (.Name x p1) && chE c (.var 1) (.Name y p2) && chE c (.var 2) (.Name z p3)
  | _ => false
def raC (c : Ct) : Expr → Bool
  | .ListComp (.Name e1 pe) [⟨tg, .Name it pi, [t], 0⟩] scope _ => chScope c scope (.nm 3) && chE c (.var 0) (.Name it pi) && chTg (c.blk scope) (.nm 3) tg && raT (c.blk scope) t && chE (c.blk scope) (.var 3) (.Name e1 pe)
  | _ => false
def raB (c : Ct) : List Stmt → Bool
  | [.Return (some (.Compare a [.Eq] [b] _)) _] => raC c a && notSet b && chE c (.lst .nil) b
  | _ => false
def raOk (free : List Str) (st : Stmt) : Bool := scopeC nRa ["calls", "word", "value"] (defScope st) && raB (ctRa st free) (defBody st)
theorem raT_inv {c : Ct} {e : Expr} (h : raT c e = true) : ∃ pg x p1 y p2 z p3 pc pn, e = .UnaryOp .Not (.Call (.Name "_law_refused" pg) [.Name x p1, .Name y p2, .Name z p3] [] pc) pn ∧ c.gl "_law_refused" = true ∧ chE c (.var 3) (.Name x p1) = true ∧ chE c (.var 1) (.Name y p2) = true ∧ chE c (.var 2) (.Name z p3) = true := by
  unfold raT at h
  split at h
  · obtain ⟨h, t5⟩ := ba h
    obtain ⟨h, t4⟩ := ba h
    obtain ⟨h, t3⟩ := ba h
    obtain ⟨t1, t2⟩ := ba h
    have t1 := of_decide_eq_true t1
    subst t1
    exact ⟨_, _, _, _, _, _, _, _, _, rfl, t2, t3, t4, t5⟩
  · cases h
theorem raC_inv {c : Ct} {e : Expr} (h : raC c e = true) : ∃ e1 p1 tg it p2 t scope pos, e = .ListComp (.Name e1 p1) [⟨tg, .Name it p2, [t], 0⟩] scope pos ∧ chScope c scope (.nm 3) = true ∧ chE c (.var 0) (.Name it p2) = true ∧ chTg (c.blk scope) (.nm 3) tg = true ∧ raT (c.blk scope) t = true ∧ chE (c.blk scope) (.var 3) (.Name e1 p1) = true := by
  unfold raC at h
  split at h
  · obtain ⟨h, t5⟩ := ba h
    obtain ⟨h, t4⟩ := ba h
    obtain ⟨h, t3⟩ := ba h
    obtain ⟨t1, t2⟩ := ba h
    exact ⟨_, _, _, _, _, _, _, _, rfl, t1, t2, t3, t4, t5⟩
  · cases h
theorem raB_inv {c : Ct} {ss : List Stmt} (h : raB c ss = true) : ∃ a b p1 p2, ss = [.Return (some (.Compare a [.Eq] [b] p1)) p2] ∧ raC c a = true ∧ notSet b = true ∧ chE c (.lst .nil) b = true := by
  unfold raB at h
  split at h
  · obtain ⟨h, t3⟩ := ba h
    obtain ⟨t1, t2⟩ := ba h
    exact ⟨_, _, _, _, rfl, t1, t2, t3⟩
  · cases h
/-- what is asked ahead of one refusal -/
def tRef (P : Program) (w : World) (K : Fg) (mg : Str → Option Value) (base : Heap) (k : Nat) (C : Nat → Addr) (cf : CF) (al : Nat) (ws : List Str) (vw vv : V) : TE := fun σ H Q => ∃ (f : Addr) (T : XK → Hp → VK → Prop), σ[3]? = some (some (.ref f)) ∧ σ[1]? = some (some vw) ∧ σ[2]? = some (some vv) ∧ Acts P w K mg base k [] noH base f T ∧
      ∀ (E' : XK) (Q' : VK), (∀ v H', RfEnd K cf al vw vv Q "let" .non H' → Q' v H') → (∀ (c : Nat) (t : Str) (a : Addr) (v : V) (H' : Hp), ws[c]? = some t → H' a = some (.xd [(("value" : Str), v)]) → RfEnd K cf al vw vv Q t v H' → E' (.ref (C c)) (some a) H') → T E' H Q'
section
variable {X : Cx} {C : Nat → Addr} {W : WX} {cf : CF}
/-- one refusal asked, its lambda in slot 3 -/
theorem pe_refd {c : Ct} {k al : Nat} {ws : List Str} {fr : Addr} {vw vv : V} {x y z : Str} {p p1 p2 p3 pos : Pos} (h0 : CtOk c X C W cf) (RP : RfP X.prog X.w X.K X.mg X.base k C cf al ws fr) (hr : Room (k + 3) X.A) (hg : c.gl "_law_refused" = true) (hm : X.mg "_law_refused" = some (.ref fr)) (hk : PySem.W.keepIn X.K (.ref fr) = true)
    (q1 : chE c (.var 3) (.Name x p1) = true) (q2 : chE c (.var 1) (.Name y p2) = true) (q3 : chE c (.var 2) (.Name z p3) = true) :
    PE X (.Call (.Name "_law_refused" p) [.Name x p1, .Name y p2, .Name z p3] [] pos) (tRef X.prog X.w X.K X.mg X.base k C cf al ws vw vv) := by
  have var : ∀ {i : Nat} {x : Str} {p : Pos}, chE c (.var i) (.Name x p) = true → PE X (.Name x p) (fun σ H Q => ∃ v, σ[i]? = some (some v) ∧ Q v H) := fun {i x p} h => by
    obtain ⟨h1, h2⟩ := ba h
    obtain ⟨v1, v2, v3⟩ := h0.vis h2
    exact pe_var (h0.slot h1) v1 v2 v3
  obtain ⟨g1, g2⟩ := h0.gl hg
  refine ⟨fun pins s σ H Q I ⟨f, T, e3, e1, e2, A, hT⟩ => ?_⟩
  refine wpAny_Call_Name_kw (ld_glob I g1 hm ?_ g2)
  refine PySem.W.callWith_K (h₀ := X.base) I.ok.mod.kin hk (thn ((pa_cons (var q1) (pa_cons (var q2) (pa_cons (var q3) pa_nil))).run pos pins s σ H (fun vs H2 => vs = [.ref f, vw, vv] ∧ H2 = H) I ⟨.ref f, e3, vw, e1, vv, e2, rfl, rfl⟩) ?_) rfl rfl
  rintro us s2 ⟨vs, H2, I2, r, rfl, rfl⟩
  obtain ⟨uw, uv, rfl, rw_, rv_⟩ : ∃ uw uv, us = [Value.ref f, uw, uv] ∧ RelV vw uw ∧ RelV vv uv := by
    cases r with
    | cons a b =>
      cases b with
      | cons b1 b2 =>
        cases b2 with
        | cons c1 c2 => cases c2; cases a; exact ⟨_, _, rfl, b1, c1⟩
  refine ⟨I2.kIn, ?_⟩
  refine wpAny_call (codeAny_mono (RP X.A X.stack s2 H2 [] noH X.base f T vw vv uw uv Q (WE W σ) h0.gd hr I2.env0 A (un_base I2.bs) (fun b hb => .inr (I2.stack.mem hb).1) (fun b hb => by cases hb) rw_ rv_ hT) fun r s' hq => ?_)
  cases r with
  | error e => exact passAt h0.tk σ pins H2 s2 e s' I2 hq
  | ok fl =>
    cases fl with
    | ret u => exact I2.after hq
    | next => exact hq.elim
    | brk => exact hq.elim
    | cont => exact hq.elim
end
end Rf
set_option linter.all false
set_option maxRecDepth 100000
set_option maxHeartbeats 4000000
set_option Elab.async false
/-! Rf: `_law_all_refused`, walked: its frame. -/
namespace Rf
open PySem PySem.Spec PyProof.Rows L2 LamX
theorem sql_of {K : Fg} {H : Hp} {a : Addr} {xs : List V} (h : H a = some (.lst xs)) : SqL K H a xs := .inl (.inl h)
section
variable {X : Cx} {C : Nat → Addr} {W : WX} {cf : CF}
theorem pe_refs {c : Ct} {k al : Nat} {ws : List Str} {fr L : Addr} {vw vv : V} {Hs H : Hp} {l : List (Addr × (XK → Hp → VK → Prop))} {e : Expr} (h0 : CtOk c X C W cf) (RP : RfP X.prog X.w X.K X.mg X.base k C cf al ws fr) (hr : Room (k + 3) X.A) (hm : X.mg "_law_refused" = some (.ref fr)) (hk : PySem.W.keepIn X.K (.ref fr) = true)
    (hA : ∀ p ∈ l, Acts X.prog X.w X.K X.mg X.base k [] noH X.base p.1 p.2 ∧ RaC X.K cf al C ws vw vv Hs H p.2) (hL : H L = some (.lst (l.map fun p => .ref p.1))) (hc : raC c e = true) :
    PE X e (tE X.K (calmR [some (.ref L), some vw, some vv, none] [] [0, 1, 2, 3] Hs H) C W (ev cf (.lst .nil))) := by
  obtain ⟨e1, p1, tg, it, p2, t, scope, pos, rfl, c1, c2, c3, c4, c5⟩ := raC_inv hc
  obtain ⟨s1, s5⟩ := ba c1
  obtain ⟨s6, s7⟩ := ba s1
  rw [List.all_eq_true] at s5 s7
  have ok : BlkOk X.N X.env.scope scope (ownOf c.N scope) := by rw [h0.N, h0.sc]; exact blkOk_by s6
  have vs3 : ∀ j, j ∈ (ownOf c.N scope).map (·.2) ↔ j = 3 := fun j => ⟨fun z => by
    have := of_decide_eq_true (s7 j z)
    simpa [Tg.slots] using this, fun z => by
    subst z
    exact of_decide_eq_true (s5 3 (by simp [Tg.slots]))⟩
  obtain ⟨i1, i2⟩ := ba c2
  obtain ⟨v1, v2, v3⟩ := h0.vis i2
  obtain ⟨pg, x, px, y, py, z, pz, pc, pn, rfl, t2, t3, t4, t5⟩ := raT_inv c4
  refine (pe_lc (tt := tNot fun σ H Q => tRef X.prog X.w X.K X.mg X.base k C cf al ws vw vv σ H fun x H' => ∃ k, TruV X.K x H' k ∧ Q k H') (te := tE X.K (calmR [some (.ref L), some vw, some vv, none] [] [0, 1, 2, 3] Hs H) C WF (ev cf (.var 3))) h0.calm h0.nd (pi_list (pe_var (h0.slot i1) v1 v2 v3)) ok (fun s H L cl fp => tg_ok (h0.blk scope s H L cl fp) c3)
    (fun s H L cl fp => pts_one (pt_not (pt_truth (pe_refd (vw := vw) (vv := vv) (h0.blk scope s H L cl fp) RP hr t2 hm hk t3 t4 t5) (nT rfl)))) (fun s Hb Lb cl fp => (e_ok cf _ _ _ c5 _ C WF (h0.blk scope s Hb Lb cl fp) (calmR [some (.ref L), some vw, some vv, none] [] [0, 1, 2, 3] Hs H)).1) (nFold rfl)).mono fun σ H1 Q h => ?_
  obtain ⟨Hs1, δ, wd, h⟩ := h
  rw [ev] at h
  have fm : Frm X.K Hs H Hs1 H1 := wd.frm
  have k0 : σ[0]? = some (some (.ref L)) := wd.kp 0 (by simp [calmR])
  have k1 : σ[1]? = some (some vw) := wd.kp 1 (by simp [calmR])
  have k2 : σ[2]? = some (some vv) := wd.kp 2 (by simp [calmR])
  have hL1 : H1 L = some (.lst (l.map fun p => .ref p.1)) := (fm.fr L _ hL).lst
  refine ⟨.ref L, k0, L, rfl, ⟨_, sql_of hL1⟩, fun D hD => ?_⟩
  have k3 : σ[3]? = some none := wd.kp 3 (by simp [calmR])
  have hsz : 3 < σ.length := (List.getElem?_eq_some_iff.mp k3).1
  have key : ∀ {Hs2 Hc : Hp}, Frm X.K Hs1 (upd H1 D (.lst [])) Hs2 Hc → Hc D = some (.lst []) ∧ Hc L = some (.lst (l.map fun p => .ref p.1)) ∧ Hs2 D = none := fun {Hs2 Hc} f2 => by
    have nLD : L ≠ D := fun z => by rw [z, hD] at hL1; cases hL1
    refine ⟨(f2.fr D _ upd_same).lst, (f2.fr L _ (by rw [upd_ne nLD]; exact hL1)).lst, ?_⟩
    exact Classical.byContradiction fun n => by
      rcases f2.nf D n with q | q
      · cases z : Hs1 D with
        | none => exact q z
        | some o => rw [wd.sub D o z] at hD; cases hD
      · rw [upd_same] at q; cases q
  have f0 : Frm X.K Hs1 H1 Hs1 (upd H1 D (.lst [])) := wd.gd.newO hD fun ps z => by cases z
  refine ⟨fun i m Hc => ∃ Hs2, Frm X.K Hs1 (upd H1 D (.lst [])) Hs2 Hc ∧ i + m = l.length, ⟨l.length, Hs1, ⟨.refl _, f0.gd, fun b o e => .inl e, fun b n => .inl n⟩, by omega⟩, ?_⟩
  rintro i m Hc ⟨Hs2, f2, him⟩
  obtain ⟨hcD, hcL, hs2⟩ := key f2
  cases m with
  | zero =>
    left
    refine ⟨⟨_, sql_of hcL, by rw [List.length_map]; omega⟩, ?_⟩
    have w2 : Wd X.K (calmR [some (.ref L), some vw, some vv, none] [] [0, 1, 2, 3] Hs H) σ δ Hs2 Hc := (f0.trans f2).wd wd
    refine h (.ref D) Hs2 Hc ⟨w2, (f0.trans f2).go, ⟨D, [], rfl, hs2, hcD, .nil, wd.notOwn hD, ?_⟩, fun _ a _ e => .inl (by cases e; exact hD)⟩
    exact wd.newN hD
  | succ m =>
    right
    have hi : i < l.length := by omega
    have hx : (l.map fun p => V.ref p.1)[i]? = some (.ref (l[i]'hi).1) := by rw [List.getElem?_map, List.getElem?_eq_getElem hi]; rfl
    obtain ⟨A, T⟩ := hA _ (List.getElem_mem hi)
    refine ⟨⟨_, _, sql_of hcL, hx⟩, fun H' => ∃ Hs2, Frm X.K Hs1 (upd H1 D (.lst [])) Hs2 H' ∧ i + 1 + m = l.length, fun H' q => ⟨m, by omega, q⟩, ?_⟩
    rintro x H' ⟨rfl, hxx⟩
    have hxx := hxx _ (sql_of hcL)
    rw [hx] at hxx
    cases hxx
    show wipe _ _ = wipe _ _ ∧ _
    refine ⟨?_, (l[i]'hi).1, (l[i]'hi).2, ?_, ?_, ?_, A, fun E' Q' hQ hE => T Hs2 H' ((fm.trans f0).trans f2) _ E' Q' (fun Hs3 H3 f3 => ⟨true, rfl, ?_⟩) hQ hE⟩
    · rw [wipe_set ((vs3 3).mpr rfl)]
      exact wipe_wipe
    · rw [List.getElem?_set_self (by rw [wipe_length]; exact hsz)]
    · rw [List.getElem?_set_ne (by omega), wipe_get, if_neg (fun z => by have := (vs3 1).mp z.1; omega)]; exact k1
    · rw [List.getElem?_set_ne (by omega), wipe_get, if_neg (fun z => by have := (vs3 2).mp z.1; omega)]; exact k2
    · exact ⟨Hs3, f2.trans f3, by omega⟩
end
def raRun : Sts := .cons (.ret (.cmp .eq (.lst .nil) (.lst .nil))) .nil
theorem ra_run {cf : CF} {β : Envr} : execs cf β raRun [.un, .un, .un, .un] = .ok (.ret (.fz (.bl true))) [.un, .un, .un, .un] := by kernel_rfl
theorem allref_ok {P : Program} {w : World} {K : Fg} {mg : Str → Option Value} {base : Heap} {k al : Nat} {C : Nat → Addr} {ws free : List Str} {fa fr : Addr} {fd : FuncData} {st : Stmt} {cf : CF} (F : FunD K "_law_all_refused" "_law_all_refused" (defArgs st) (defBody st) (defScope st) [] [] fa fd) (B : Binds K fd ["calls", "word", "value"] []) (hc : raOk free st = true) (hfree : ∀ x ∈ free, mg x = none)
    (RP : RfP P w K mg base k C cf al ws fr) (hm : mg "_law_refused" = some (.ref fr)) (hk : PySem.W.keepIn K (.ref fr) = true) : RaP P w K mg base k C cf al ws fa := by
  intro Z out s H L l vw vv uw uv Hs Q E hgd hr e0 gd hA hL rw_ rv_ hQ
  unfold raOk at hc
  obtain ⟨c1, c2⟩ := ba hc
  have S := scope_ok c1
  obtain ⟨oc, od, dV, kV, doc, pm, an, cdv, ct, osl, rfl, lk, hcd, _, _⟩ := F.ex
  have kin : K.In s.heap := e0.mod.kin.keeps fun b o e => (e0.bs b o e).1
  have hbt := bt_all (X := cxOf (L2.CX P w) P w K mg base nRa "_law_all_refused" (defScope st) fa cdv Z out s H E) (us := [.ref L, uw, uv]) B kin rfl
  refine run_ofS (CX := L2.CX P w) (N := nRa) (ps := ["calls", "word", "value"]) (us := [.ref L, uw, uv]) (vs := [.ref L, vw, vv]) lk hcd S hr e0 hbt (.cons rfl (.cons rw_ (.cons rv_ .nil))) rfl fun hr' => ?_
  generalize hX : cxOf (L2.CX P w) P w K mg base nRa "_law_all_refused" (defScope st) fa cdv Z out s H E = X at *
  have k0 : CtOk (ctRa st free) X C (fun cls d _ H => E cls d H) cf := by
    subst hX
    exact {
      N := rfl
      nd := S.nd
      sc := rfl
      calm := rfl
      lvl := ⟨k, hr'.mono (by omega), (fun i x (h : ([] : List Str)[i]? = some x) => by simp at h), (fun (z : false = true) => nomatch z), fun al (h : none = some al) => nomatch h⟩
      cl := fun i x (h : ([] : List Str)[i]? = some x) => by simp at h
      gi := fun n x i (h : ([] : List (Str × Int))[n]? = some (x, i)) => by simp at h
      free := hfree
      tk := takes_of rfl rfl rfl rfl
      gd := hgd
      fnl := fun _ _ => rfl
      tab := fun (z : false = true) => nomatch z }
  obtain ⟨a, b, p1, p2, hb, b2, b3, b4⟩ := raB_inv c2
  have hu := hu_of k0
  have hcomp : PE X a (tE X.K (calmR [some (.ref L), some vw, some vv, none] [] [0, 1, 2, 3] Hs H) C (fun cls d _ H => E cls d H) (ev cf (.lst .nil))) := by
    subst hX
    exact pe_refs (k := k) (al := al) (ws := ws) (fr := fr) (l := l) k0 RP hr' hm hk hA hL b2
  have hs : PS X (.Return (some (.Compare a [.Eq] [b] p1)) p2) (tS X.K (calmR [some (.ref L), some vw, some vv, none] [] [0, 1, 2, 3] Hs H) C (fun cls d _ H => E cls d H) (exec cf (calmR [some (.ref L), some vw, some vv, none] [] [0, 1, 2, 3] Hs H).β (.ret (.cmp .eq (.lst .nil) (.lst .nil))))) :=
    s_ret (s_cmp (op := .eq) hu (nSt b3) hcomp (e_ok cf _ _ _ b4 X C _ k0 _).1)
  have hK : X.K = K := by subst hX; rfl
  rw [hb]
  refine ⟨_, ss_cons (R := calmR [some (.ref L), some vw, some vv, none] [] [0, 1, 2, 3] Hs H) hs ss_nil, Hs, [.un, .un, .un, .un], ?_, ?_⟩
  · rw [hK]
    refine gd.wd rfl (fun i ds e => ?_) fun i d e => ?_
    · match i, e with
      | 0, e => cases (Option.some.inj e)
      | 1, e => cases (Option.some.inj e)
      | 2, e => cases (Option.some.inj e)
      | 3, e => cases (Option.some.inj e)
      | _ + 4, e => simp at e
    · match i, e with
      | 0, e => cases (Option.some.inj e)
      | 1, e => cases (Option.some.inj e)
      | 2, e => cases (Option.some.inj e)
      | 3, e => cases (Option.some.inj e)
      | _ + 4, e => simp at e
  · have e := ra_run (cf := cf) (β := (calmR [some (.ref L), some vw, some vv, none] [] [0, 1, 2, 3] Hs H).β)
    unfold raRun at e
    rw [e]
    intro vt σ' Hs' H' w' rs
    rw [hK] at w' rs
    cases (show Dq K _ Hs' vt (.bl true) from rs)
    exact hQ Hs' H' w'.frm
end Rf
set_option linter.all false
set_option maxRecDepth 100000
set_option maxHeartbeats 2000000
set_option Elab.async false
namespace Rf
open PySem PySem.Spec PyProof.Rows L2
/-- a def without an own form: all its runs are bad -/
def badB : Sts := .cons (.ex (.ioa 0)) .nil
theorem run_bad {cf : CF} {F : Fn} (h : F.body = badB) (as : List SV) : ∃ n, F.run cf as = .bad n := by
  unfold Fn.run
  by_cases c : as.length = F.np
  · rw [if_pos c, h]
    refine ⟨18, ?_⟩
    have e : ∀ δ β : Envr, execs cf β badB δ = .bad 18 := fun δ β => by
      unfold badB
      rw [execs, exec, ev]
      rfl
    simp only [e]
    rfl
  · rw [if_neg c]; exact ⟨_, rfl⟩
/-- what is asked of `_law_caught` and `_law_refused` -/
def chR0 (g : Gt) (pg : List Pd) : Bool := match g.rfa with
  | none => true
  | some (al, ic, ir) => (match pg[ic]?, pg[ir]? with
    | some pc, some pr => decide (pc.x = ("_law_caught" : Str)) && decide (pc.ps = [("call" : Str)]) && caOk g.free pc.st && decide (pr.x = ("_law_refused" : Str)) && decide (pr.ps = [("call" : Str), ("word" : Str), ("value" : Str)]) && reOk g.fns g.free al pr.st
    | _, _ => false) && (names16.all fun y => decide (y ∈ g.cls)) && (g.cls.all fun y => decide (y ∈ names16)) && decide (("LineError" : Str) ∈ g.tops)
/-- what is asked of `_law_all_refused` -/
def chA2 (g : Gt) (pg : List Pd) : Bool := match g.raa with
  | none => true
  | some ia => (match pg[ia]? with
    | some pa => decide (pa.x = ("_law_all_refused" : Str)) && decide (pa.ps = [("calls" : Str), ("word" : Str), ("value" : Str)]) && raOk g.free pa.st
    | none => false)
def chR (g : Gt) (pg : List Pd) : Bool := chR0 g pg && chA2 g pg
theorem chA2_of {g : Gt} {pg : List Pd} (h : chR g pg = true) (ia : Nat) (e : g.raa = some ia) : ∃ pa, pg[ia]? = some pa ∧ pa.x = ("_law_all_refused" : Str) ∧ pa.ps = [("calls" : Str), ("word" : Str), ("value" : Str)] ∧ raOk g.free pa.st = true := by
  have h2 := (ba h).2
  unfold chA2 at h2
  rw [e] at h2
  simp only at h2
  split at h2
  · rename_i pa q
    obtain ⟨h2, h5⟩ := ba h2
    obtain ⟨h3, h4⟩ := ba h2
    exact ⟨pa, q, of_decide_eq_true h3, of_decide_eq_true h4, h5⟩
  · cases h2
/-- what the head tells of the program at K -/
structure PgOk (P : Program) (K : Fg) (mg : Str → Option Value) (g : Gt) (C : Nat → Addr) (pg : List Pd) (cs : List (Addr × Addr)) : Prop where
  tb : ∀ (p : Pd), p ∈ pg → ∀ fa oc od dV kV doc pm an cdv ct osl, mg p.x = some (.ref fa) → K.lookup fa = some ⟨oc, od, .func (PySem.W.fnOf p.x p.x (defArgs p.st) (defBody p.st) (defScope p.st) dV kV doc pm an cdv ct), osl⟩ → ∃ c Q, cdv = .ref c ∧ (c, Q) ∈ cs ∧ (Q, (p.x ++ ".<locals>.") ++ "<lambda>") ∈ tbl K ∧ ∀ q ∈ tbl K, q.1 = Q → q.2 = (p.x ++ ".<locals>.") ++ "<lambda>"
  nm : pg.map (·.x) = g.fns
  fn : ∀ (i : Nat) (p : Pd), pg[i]? = some p → ∃ (fa : Addr) (fd : FuncData), mg p.x = some (.ref fa) ∧ FunD K p.x p.x (defArgs p.st) (defBody p.st) (defScope p.st) [] [] fa fd ∧ Binds K fd p.ps [] ∧ ∀ kw ks, (i, kw, ks) ∈ g.kws → KwB K fd p.ps kw ks
  cl : ∀ (i : Nat) (x : Str), g.cls[i]? = some x → mg x = some (.ref (C i)) ∧ ∃ fI, IniOk P K mg (C i) fI
  gi : ∀ (n : Nat) (x : Str) (i : Int), g.gis[n]? = some (x, i) → ∃ t, mg x = some (.int i t)
  free : ∀ x, x ∈ g.free → mg x = none
  ch : ∀ (i : Nat) (p : Pd), pg[i]? = some p → chP g p = true ∨ p.F.body = badB
  rf : ∀ al ic ir, g.rfa = some (al, ic, ir) → ∃ pc pr LE, pg[ic]? = some pc ∧ pc.x = ("_law_caught" : Str) ∧ pc.ps = [("call" : Str)] ∧ caOk g.free pc.st = true ∧ pg[ir]? = some pr ∧ pr.x = ("_law_refused" : Str) ∧ pr.ps = [("call" : Str), ("word" : Str), ("value" : Str)] ∧ reOk g.fns g.free al pr.st = true ∧ ErrOk K mg C g.cls LE
  ra : ∀ ia, g.raa = some ia → ∃ pa, pg[ia]? = some pa ∧ pa.x = ("_law_all_refused" : Str) ∧ pa.ps = [("calls" : Str), ("word" : Str), ("value" : Str)] ∧ raOk g.free pa.st = true
theorem depth_zero {P : List Fn} {f : Nat} {as : List SV} : depth P 0 f as = .bad 43 := rfl
theorem pg_okB {P : Program} {w : World} {K : Fg} {mg : Str → Option Value} {g : Gt} {C : Nat → Addr} {pg : List Pd} {cs : List (Addr × Addr)} (o : PgOk P K mg g C pg cs) :
    ∀ (k : Nat) (base : Heap), (∀ q ∈ cs, LamX.TabB base mg q.1 q.2) → ∀ (i : Nat) (p : Pd), pg[i]? = some p → ∀ (fa : Addr) (fd : FuncData), mg p.x = some (.ref fa) → FunD K p.x p.x (defArgs p.st) (defBody p.st) (defScope p.st) [] [] fa fd → FnG P w K mg base (L2.CX P w) (5 * k) fa fd p.ps (spOf K C (depth (pg.map Pd.F) k i))
  | 0, base, hTB, i, p, hp, fa, fd, hm, F => by
    have no : ∀ {vs : List V} {H : Hp} {Q : VK} {E : XK}, spOf K C (depth (pg.map Pd.F) 0 i) vs H Q E → False := fun h => by
      obtain ⟨Hs, as, _, h⟩ := h
      rw [depth_zero] at h
      exact h
    exact ⟨fun vs H Q E h => (no h).elim, fun A outer s H args us vs Q E _ _ _ _ _ h => (no h).elim⟩
  | k + 1, base, hTB, i, p, hp, fa, fd, hm, F => by
    rcases o.ch i p hp with hc | hbad
    rotate_left
    · have no : ∀ {vs : List V} {H : Hp} {Q : VK} {E : XK}, spOf K C (depth (pg.map Pd.F) (k + 1) i) vs H Q E → False := fun h => by
        obtain ⟨Hs, as, _, h⟩ := h
        have e : depth (pg.map Pd.F) (k + 1) i as = p.F.run (depth (pg.map Pd.F) k) as := by
          show (match (pg.map Pd.F)[i]? with | some F => Fn.run (depth (pg.map Pd.F) k) F as | none => .bad 44) = _
          rw [List.getElem?_map, hp]
          rfl
        obtain ⟨n, e2⟩ := run_bad (cf := depth (pg.map Pd.F) k) hbad as
        rw [e, e2] at h
        exact h
      exact ⟨fun vs H Q E h => (no h).elim, fun A outer s H args us vs Q E _ _ _ _ _ h => (no h).elim⟩
    unfold chP at hc
    obtain ⟨hc, c5⟩ := ba hc
    obtain ⟨hc, c4⟩ := ba hc
    obtain ⟨hc, c3⟩ := ba hc
    obtain ⟨c1, c2⟩ := ba hc
    have S := scope_ok c1
    have e : depth (pg.map Pd.F) (k + 1) i = p.F.run (depth (pg.map Pd.F) k) := by
      funext as
      show (match (pg.map Pd.F)[i]? with | some F => Fn.run (depth (pg.map Pd.F) k) F as | none => .bad 44) = _
      rw [List.getElem?_map, hp]
      rfl
    rw [e]
    have c2 := of_decide_eq_true c2
    have c3 := of_decide_eq_true c3
    have c4 := of_decide_eq_true c4
    refine fnG_of (k := 5 * k + 4) F S (fun vs H Q E h => ?_) fun cdv hlk A outer s H vs Q E hgd hr h => ?_
    · obtain ⟨h1, _⟩ := body_go c2 c3 h
      rw [h1, c4]
    · obtain ⟨h1, R, h2, h3⟩ := body_go c2 c3 h
      refine ⟨_, ?_, h3⟩
      have hfB : ∀ base2 : Heap, (∀ q ∈ cs, LamX.TabB base2 mg q.1 q.2) → ∀ (j : Nat) (x : Str), g.fns[j]? = some x → ∃ (fa : Addr) (fd : FuncData) (ps : List Str), mg x = some (.ref fa) ∧ FnG P w K mg base2 (L2.CX P w) (5 * k) fa fd ps (spOf K C (depth (pg.map Pd.F) k j)) ∧ PySem.W.keepIn K (.ref fa) = true ∧ Binds K fd ps [] ∧ ∀ kw ks, (j, kw, ks) ∈ g.kws → KwB K fd ps kw ks := fun base2 hB j x hx => by
        rw [← o.nm, List.getElem?_map] at hx
        obtain ⟨q, hq, rfl⟩ := Option.map_eq_some_iff.mp hx
        obtain ⟨fa', fd', m1, m2, m3, m4⟩ := o.fn j q hq
        exact ⟨fa', fd', q.ps, m1, pg_okB o k base2 hB j q hq fa' fd' m1 m2, m2.kp, m3, m4⟩
      have hf := hfB base hTB
      refine ss_ok _ p.F.body (defBody p.st) (g.ct p) p.F.nas c5 _ C _ ?_ (passes_of rfl) R h2 (fun (z : false = true) => nomatch z)
      exact {
        N := rfl
        nd := S.nd
        sc := rfl
        calm := rfl
        lvl := ⟨5 * k, hr.mono (by omega), hf, fun _ => hr, fun al hal => by
          have hal : g.rfa.map (·.1) = some al := hal
          obtain ⟨⟨al', ic, ir⟩, hg, rfl⟩ := Option.map_eq_some_iff.mp hal
          obtain ⟨pc, pr, LE, c1, c2, c3, c4, c5, c6, c7, c8, EO⟩ := o.rf _ _ _ hg
          obtain ⟨fc, fdc, a1, a2, a3, _⟩ := o.fn ic pc c1
          obtain ⟨fr, fdr, b1, b2, b3, _⟩ := o.fn ir pr c5
          rw [c2] at a1 a2
          rw [c3] at a3
          rw [c6] at b1 b2
          rw [c7] at b3
          have rp : ∀ base2 : Heap, (∀ q ∈ cs, LamX.TabB base2 mg q.1 q.2) → RfP P w K mg base2 (5 * k) C (depth (pg.map Pd.F) k) al' (g.cls.map wordOf) fr := fun base2 hB => refused_ok b2 b3 c8 o.free (caught_ok (k := 5 * k) a2 a3 c4 EO o.free) a1 a2.kp fun j x hx => by
            obtain ⟨fa', fd', ps, m1, m2, m3, m4, _⟩ := hfB base2 hB j x hx
            exact ⟨fa', fd', ps, m1, m2, m3, m4⟩
          refine ⟨fr, b1, b2.kp, rp base hTB, fun hra => ?_⟩
          obtain ⟨ia, hia⟩ := Option.isSome_iff_exists.mp (show g.raa.isSome = true from hra)
          obtain ⟨pa, d1, d2, d3, d4⟩ := o.ra ia hia
          obtain ⟨fa', fda, e1, e2, e3, _⟩ := o.fn ia pa d1
          rw [d2] at e1 e2
          rw [d3] at e3
          exact ⟨fa', e1, e2.kp, fun base2 hb => allref_ok e2 e3 d4 o.free (rp base2 fun q hq => tabB_up (hTB q hq) hb) b1 b2.kp⟩⟩
        cl := o.cl
        gi := o.gi
        free := o.free
        tk := takes_of rfl rfl rfl rfl
        gd := hgd
        fnl := fun _ _ => rfl
        tab := fun _ => by
          obtain ⟨oc, od, dV, kV, doc, pm, an, ct, osl, lk⟩ := hlk
          obtain ⟨c, Pt, e1, e2, e3, e4⟩ := o.tb p (List.mem_of_getElem? hp) fa oc od dV kV doc pm an cdv ct osl hm lk
          exact ⟨c, Pt, e1, hTB _ e2, e3, e4⟩ }
theorem pg_ok {P : Program} {w : World} {K : Fg} {mg : Str → Option Value} {base : Heap} {g : Gt} {C : Nat → Addr} {pg : List Pd} {cs : List (Addr × Addr)} (o : PgOk P K mg g C pg cs) (hTB : ∀ q ∈ cs, LamX.TabB base mg q.1 q.2) :
    ∀ (k : Nat) (i : Nat) (p : Pd), pg[i]? = some p → ∀ (fa : Addr) (fd : FuncData), mg p.x = some (.ref fa) → FunD K p.x p.x (defArgs p.st) (defBody p.st) (defScope p.st) [] [] fa fd → FnG P w K mg base (L2.CX P w) (5 * k) fa fd p.ps (spOf K C (depth (pg.map Pd.F) k i)) :=
  fun k i p hp fa fd hm F => pg_okB o k base hTB i p hp fa fd hm F
/-- a heap without its tables -/
def untab (H : Hp) : Hp := fun b => match H b with
  | some (.tbl _) => none
  | o => o
theorem untab_of {H : Hp} {b : Addr} {o : HO} (h : H b = some o) (n : ∀ ps, o ≠ .tbl ps) : untab H b = some o := by
  unfold untab
  rw [h]
  cases o <;> first | rfl | exact absurd rfl (n _)
theorem untab_sub {H : Hp} : Sub (untab H) H := fun b o e => by
  unfold untab at e
  split at e
  · cases e
  · exact e
theorem untab_no {H : Hp} (b : Addr) (ps : Array Value) : untab H b ≠ some (.tbl ps) := fun e => by
  have h := untab_sub b _ e
  unfold untab at e
  rw [h] at e
  cases e
theorem untab_sq {K : Fg} {H : Hp} {a : Addr} {xs : List V} (h : SqL K H a xs) : SqL K (untab H) a xs := by
  rcases h with (h | ⟨o, h⟩) | h
  · exact .inl (.inl (untab_of h fun _ z => by cases z))
  · exact .inl (.inr ⟨o, untab_of h fun _ z => by cases z⟩)
  · exact .inr h
/-- a law's end: its run gives True at every script -/
theorem law_sp {K : Fg} {C : Nat → Addr} {G : List SV → FR} (hG : ∀ ns : List Int, ns.length ≤ 63 → ∃ ws, G [.sh (.lst .ro (ns.map .int))] = .ret (.fz (.bl true)) ws) (H : Hp) (a : Addr) (ns : List Int) (hl : ns.length ≤ 63) (hS : SqL K H a (ns.map V.int)) (hT : Tb K H) :
    spOf K C G [.ref a] H (fun v _ => v = .bl true) fun _ _ _ => False := by
  obtain ⟨ws, e⟩ := hG ns hl
  refine ⟨untab H, [.sh (.lst .ro (ns.map .int))], ?_, ?_⟩
  · exact {
      bs := .refl _
      sub := untab_sub
      fr := fun b o h _ => .inl h
      tb := hT
      ns := untab_no
      dom := fun b h => h
      nf := fun b h => .inl h
      len := rfl
      sh := fun i d e => by
        cases i with
        | zero => cases (Option.some.inj e); exact ⟨.ref a, rfl, .lst (untab_sq hS) (DqAll.of_ints ns)⟩
        | succ i => simp at e
      ow := fun i ds e => by
        cases i with
        | zero => cases (Option.some.inj e)
        | succ i => simp at e
      owA := fun b h => .inl h
      dj := fun i j ds es b e _ _ _ => by
        cases i with
        | zero => cases (Option.some.inj e)
        | succ i => simp at e
      kp := fun j hj => by cases hj }
  · rw [e]
    refine ⟨(fun i z => by cases z), fun v Hs' H' _ rs _ => ?_⟩
    cases (show Dq K _ Hs' v (.bl true) from rs)
    rfl
theorem cx_no {P : Program} {w : World} (H : Hp) (s : Shared) (e : Value) (s' : Shared) : L2.CX P w [] H s (fun _ _ _ => False) e s' → False := fun ⟨_, _, _, _, _, _, _, _, _, _, _, _, z⟩ => z
end Rf
set_option linter.all false
set_option maxRecDepth 100000
set_option maxHeartbeats 2000000
set_option Elab.async false
/-! Rf soundness, part 27: a law's end, its def known where no guard stands. -/
namespace Rf
open PySem PySem.Spec PyProof.Rows L2
section
variable {P : Program} {w : World} {K : Fg} {mg mb : Str → Option Value} {k : Nat} {fa a : Addr} {fd : FuncData} {x : Str} {sp : Sp} {s1 : Shared} {vs : List Value} {ns : List Int}
/-- what the end says of the state behind the law -/
def Ended (s1 : Shared) (r : Result) (s' : Shared) : Prop := r = .ok (.ret (.bool true)) ∧ OldK s1.heap s'.heap ∧ s'.os = s1.os ∧ AllBare s'.gens
/-- at an abstract heap that knows the script alone, or nothing, and the tables of code objects -/
theorem end_at {H : Hp} {cs : List (Addr × Addr)} (KX : K.In s1.heap) (hns : s1.heap.Ns mainGlobals mg) (hb : s1.heap.Ns builtinsNs mb) (hbb : ∀ y : Str, y ≠ "__name__" → mb y = bootBuiltins y) (hlim : s1.heap.NoLimit) (hg : s1.gens = #[])
    (hT : ∀ p ∈ cs, s1.heap.get? p.2 = some { cls := .none, data := .fields #[] }) (nT : ∀ p ∈ cs, K.lookup p.2 = none) (hC : ∀ p ∈ cs, PySem.W.CodeHd s1.heap p.1 p.2)
    (hbm : ∃ (bm : Addr) (ob : Obj), mg "__builtins__" = some (.ref bm) ∧ bm ≠ builtinsNs ∧ s1.heap.get? bm = some ob ∧ ob.cls = .type "module" ∧ ob.dict = some builtinsNs ∧ ob.data = .plain)
    (ha : s1.heap.get? a = some { cls := .type "list", data := .seq vs.toArray }) (hr : Room k callerA)
    (F : ∀ bs : Heap, K.In bs → bs.Ns mainGlobals mg → (∀ p ∈ cs, LamX.TabB bs mg p.1 p.2) → FnG P w K mg bs (L2.CX P w) k fa fd [x] sp) (hbind : BindsTo s1 fd ⟨[.ref a], []⟩ [(x, .ref a)]) (hsp : sp [.ref a] H (fun v _ => v = .bl true) fun _ _ _ => False)
    (hok : HOk P w H s1.heap) (only : ∀ c, H c = none ∨ (c = a ∧ ∃ o xs, H c = some (.frz o (.lst xs))) ∨ ((∃ p ∈ cs, c = p.2) ∧ H c = some (.tbl #[]))) (hK : H a = none ∨ K.lookup a = none) :
    codeAny (model P w) callerA (.call (.ref fa) ⟨[.ref a], []⟩) (Ended s1) s1 := by
  have free : ∀ {c : Addr} {o : Obj}, s1.heap.get? c = some o → (∀ q n, o.data ≠ .seq q n) → o.data ≠ .fields #[] → H c = none := by
    intro c o e h1 h2
    rcases only c with z | ⟨rfl, _⟩ | ⟨⟨p, hp, rfl⟩, _⟩
    · exact z
    · rw [ha] at e; cases e; exact (h1 _ _ rfl).elim
    · rw [hT p hp] at e; cases e; exact (h2 rfl).elim
  have stay : ∀ {c : Addr} {o : Obj}, s1.heap.get? c = some o → (∀ q n, o.data ≠ .seq q n) → o.data ≠ .fields #[] → (hidT s1.heap H).get? c = some o := fun e h1 h2 => hidT_get e (free e h1 h2)
  have ns2 : ∀ {c : Addr} {m : Str → Option Value}, s1.heap.Ns c m → (hidT s1.heap H).Ns c m := by
    rintro c m ⟨o, es, n, e, d, r⟩
    exact ⟨o, es, n, stay e (fun _ _ z => by rw [d] at z; cases z) (fun z => by rw [d] at z; cases z), d, r⟩
  have KB : K.In (hidT s1.heap H) := by
    intro c o e
    refine hidT_get (KX c o e) ?_
    rcases only c with z | ⟨rfl, _⟩ | ⟨⟨p, hp, rfl⟩, _⟩
    · exact z
    · rcases hK with z | z
      · exact z
      · rw [z] at e; cases e
    · rw [nT p hp] at e; cases e
  have md : Mod K mg (hidT s1.heap H) := by
    refine ⟨KB, ns2 hns, ⟨mb, ns2 hb, hbb⟩, ?_⟩
    obtain ⟨mc, h1, h2⟩ := hlim
    exact ⟨mc, ns2 h1, h2⟩
  have en : Env0 P w K mg (hidT s1.heap H) callerA [] s1 H := by
    refine ⟨rfl, md, fun c o e => of_hidT e, Nat.le_of_eq (hidT_size _ _), trivial, ?_, hok, .of_eq hg⟩
    intro c hc
    cases hc
  have nsAt : ∀ {c : Addr} {m : Str → Option Value} {o : Obj}, s1.heap.Ns c m → s1.heap.get? c = some o → ∃ es n, o.data = .dict es n := by
    rintro c m o ⟨o', es, n, e, d, _⟩ z
    rw [z] at e; cases e
    exact ⟨es, n, d⟩
  have TB : ∀ p ∈ cs, LamX.TabB (hidT s1.heap H) mg p.1 p.2 := fun p hp => by
    refine ⟨?_, ?_, fun z => ?_⟩
    · obtain ⟨o, us, file, tf, flags, tg, inF, text, tt, e1, r1, r2, r3, more⟩ := hC p hp
      refine ⟨o, us, file, tf, flags, tg, inF, text, tt, stay e1 (fun _ _ z => by rw [r2] at z; cases z) (fun z => ?_), r1, r2, r3, more⟩
      rw [r2] at z
      cases z
      simp at r3
    · obtain ⟨bm, ob, b1, b2, b3, b4, b5, b6⟩ := hbm
      refine ⟨bm, ob, b1, b2, fun q => ?_, fun q => ?_, stay b3 (fun _ _ z => by rw [b6] at z; cases z) (fun z => by rw [b6] at z; cases z), b4, b5, b6⟩
      · subst q
        obtain ⟨es, n, d⟩ := nsAt hns b3
        rw [b6] at d; cases d
      · rw [q, hT p hp] at b3
        cases b3; cases b6
    · obtain ⟨es, n, d⟩ := nsAt (z ▸ hns) (hT p hp)
      cases d
  refine codeAny_mono ((F _ KB (ns2 hns) TB).go callerA [] s1 H _ [.ref a] [.ref a] _ _ rfl hr en hbind (.cons rfl .nil) hsp) ?_
  rintro (e | fl) s' z
  · exact (cx_no H s1 e s' z).elim
  · cases fl with
    | ret u =>
      obtain ⟨v, H', q1, q2, un, hok', rv, rfl⟩ := z
      cases (show u = Value.bool true from rv)
      have old : ∀ c o, s1.heap.get? c = some o → s'.heap.get? c = some o ∨ ∃ p ∈ cs, c = p.2 ∧ ∃ more, s'.heap.get? c = some { cls := .none, data := .fields more } := fun c o e => by
        rcases only c with z | ⟨_, ob, xs, z⟩ | ⟨⟨p, hp, rfl⟩, z⟩
        · exact .inl (un.keep c o e z (fun y => by cases y) (fun y => by cases y))
        · obtain ⟨g1, _⟩ := hok c _ z
          obtain ⟨g2, _⟩ := hok' c _ (un.frzs c ob _ z)
          rw [e] at g1
          cases g1
          exact .inl g2
        · obtain ⟨more, y⟩ := un.tbls p.2 #[] z
          exact .inr ⟨p, hp, rfl, _, hok' p.2 _ y⟩
      refine ⟨rfl, ⟨fun c o e => ?_, fun c o e => ?_⟩, q1, q2⟩
      · rcases old c o e with z | ⟨p, hp, rfl, more, z⟩
        · exact .inl z
        · rw [hT p hp] at e
          cases e
          exact .inr (.inl ⟨((hC p hp).tab (hT p hp)).isCodeTable, rfl, #[], more, rfl, by rw [Array.empty_append]; exact z⟩)
      · rcases old c o e with z | ⟨p, hp, rfl, more, z⟩
        · exact ⟨o, z⟩
        · exact ⟨_, z⟩
    | next => exact z.elim
    | brk => exact z.elim
    | cont => exact z.elim
theorem end_call {cs : List (Addr × Addr)} (KX : K.In s1.heap) (hns : s1.heap.Ns mainGlobals mg) (hb : s1.heap.Ns builtinsNs mb) (hbb : ∀ y : Str, y ≠ "__name__" → mb y = bootBuiltins y) (hlim : s1.heap.NoLimit) (hg : s1.gens = #[])
    (hT : ∀ p ∈ cs, s1.heap.get? p.2 = some { cls := .none, data := .fields #[] }) (nT : ∀ p ∈ cs, K.lookup p.2 = none) (hC : ∀ p ∈ cs, PySem.W.CodeHd s1.heap p.1 p.2)
    (hbm : ∃ (bm : Addr) (ob : Obj), mg "__builtins__" = some (.ref bm) ∧ bm ≠ builtinsNs ∧ s1.heap.get? bm = some ob ∧ ob.cls = .type "module" ∧ ob.dict = some builtinsNs ∧ ob.data = .plain)
    (ha : s1.heap.get? a = some { cls := .type "list", data := .seq vs.toArray }) (hi : IntsAre vs ns) (hl : ns.length ≤ sizeLine) (hr : Room k callerA)
    (F : ∀ bs : Heap, K.In bs → bs.Ns mainGlobals mg → (∀ p ∈ cs, LamX.TabB bs mg p.1 p.2) → FnG P w K mg bs (L2.CX P w) k fa fd [x] sp) (hbind : BindsTo s1 fd ⟨[.ref a], []⟩ [(x, .ref a)])
    (hsp : ∀ H : Hp, (∀ p ∈ cs, H p.2 = some (.tbl #[])) → (∀ c ps, H c = some (.tbl ps) → ∃ p ∈ cs, c = p.2) → SqL K H a (ns.map V.int) → sp [.ref a] H (fun v _ => v = .bl true) fun _ _ _ => False) : codeAny (model P w) callerA (.call (.ref fa) ⟨[.ref a], []⟩) (Ended s1) s1 := by
  have rv := vals_ints hi
  have hn := hi.length
  have na : ∀ p ∈ cs, p.2 ≠ a := fun p hp z => by
    have e := hT p hp
    rw [z, ha] at e
    cases e
  let T : Hp := fun c => if c ∈ cs.map (·.2) then some (.tbl #[]) else none
  have tIn : ∀ p ∈ cs, T p.2 = some (.tbl #[]) := fun p hp => if_pos (List.mem_map.mpr ⟨p, hp, rfl⟩)
  have tOnly : ∀ c, T c = none ∨ ((∃ p ∈ cs, c = p.2) ∧ T c = some (.tbl #[])) := fun c => by
    by_cases h : c ∈ cs.map (·.2)
    · obtain ⟨p, hp, e⟩ := List.mem_map.mp h
      exact .inr ⟨⟨p, hp, e.symm⟩, if_pos h⟩
    · exact .inl (if_neg h)
  have tOk : HOk P w T s1.heap := fun c u z => by
    rcases tOnly c with y | ⟨⟨p, hp, rfl⟩, y⟩
    · rw [y] at z; cases z
    · rw [y] at z; cases z
      exact hT p hp
  have tTab : ∀ c ps, T c = some (.tbl ps) → ∃ p ∈ cs, c = p.2 := fun c ps z => by
    rcases tOnly c with y | ⟨y, _⟩
    · rw [y] at z; cases z
    · exact y
  by_cases hk : K.lookup a = none
  · let so : Obj := { cls := .type "list", data := .seq vs.toArray }
    let H : Hp := upd T a (.frz so (.lst (ns.map V.int)))
    have hH : ∀ p ∈ cs, H p.2 = some (.tbl #[]) := fun p hp => by rw [show H p.2 = T p.2 from upd_ne (na p hp)]; exact tIn p hp
    have hO : ∀ c ps, H c = some (.tbl ps) → ∃ p ∈ cs, c = p.2 := fun c ps z => by
      by_cases e : c = a
      · subst e
        rw [show H c = some _ from upd_same] at z; cases z
      · rw [show H c = T c from upd_ne e] at z
        exact tTab c ps z
    refine end_at (H := H) KX hns hb hbb hlim hg hT nT hC hbm ha hr F hbind (hsp H hH hO (.inl (.inr ⟨so, upd_same⟩))) ?_ ?_ (.inr hk)
    · intro c u z
      by_cases e : c = a
      · subst e
        rw [show H c = some _ from upd_same] at z
        cases z
        exact ⟨ha, by rw [List.length_map]; exact hl, vs, _, rv, ha⟩
      · rw [show H c = T c from upd_ne e] at z
        rcases tOnly c with y | ⟨⟨p, hp, rfl⟩, y⟩
        · rw [y] at z; cases z
        · rw [y] at z; cases z
          exact hT p hp
    · intro c
      by_cases e : c = a
      · subst e; exact .inr (.inl ⟨rfl, _, _, upd_same⟩)
      · rcases tOnly c with y | ⟨y1, y2⟩
        · exact .inl ((upd_ne e).trans y)
        · exact .inr (.inr ⟨y1, (upd_ne e).trans y2⟩)
  · obtain ⟨o, ho⟩ := Option.ne_none_iff_exists'.mp hk
    have e := KX a o ho
    rw [ha] at e
    cases e
    have ta : T a = none := by
      rcases tOnly a with y | ⟨⟨p, hp, z⟩, _⟩
      · exact y
      · exact absurd z.symm (na p hp)
    refine end_at (H := T) KX hns hb hbb hlim hg hT nT hC hbm ha hr F hbind (hsp _ tIn tTab (.inr ⟨_, vs.toArray, _, ho, rfl, rfl, rfl, ?_, by simpa using rv⟩)) tOk (fun c => (tOnly c).imp id .inr) (.inl ta)
    rw [List.size_toArray, hn]; exact hl
end
/-- a law by its def: what the head has to tell (YP), the written part, the promise -/
theorem walkG {l : PySem.W.OpenLaw} {n k : Nat} {q : Program} {loose : List Str} {XP : (Str → Option Value) → Heap → Prop} {YP : World → Heap → Prop} {d : DefRec} {x : Str} (hn : l.most = some n) (hn2 : n ≤ sizeLine) (hdf : d.params.defaults = []) (hr : Room k callerA)
    (F : ∀ (w : World) (mg : Str → Option Value) (fa : Addr) (h : Heap), YP w h → h.Ns mainGlobals mg → mg d.name = some (.ref fa) → ∃ (K : Fg) (fd : FuncData) (cs : List (Addr × Addr)) (sp : Sp), K.In h ∧ (∀ p ∈ cs, h.get? p.2 = some { cls := .none, data := .fields #[] }) ∧ (∀ p ∈ cs, K.lookup p.2 = none) ∧ (∀ p ∈ cs, PySem.W.CodeHd h p.1 p.2) ∧ (∀ (s : Shared) (u : Value), BindsTo s fd ⟨[u], []⟩ [(x, u)]) ∧
      (∀ (H : Hp) (a : Addr) (ns : List Int), ns.length ≤ n → (∀ p ∈ cs, H p.2 = some (.tbl #[])) → (∀ c ps, H c = some (.tbl ps) → ∃ p ∈ cs, c = p.2) → SqL K H a (ns.map V.int) → sp [.ref a] H (fun v _ => v = .bl true) fun _ _ _ => False) ∧ ∀ bs : Heap, K.In bs → bs.Ns mainGlobals mg → (∀ p ∈ cs, LamX.TabB bs mg p.1 p.2) → FnG l.prog w K mg bs (L2.CX l.prog w) k fa fd [x] sp) :
    PySem.W.WalkO q loose XP YP l.row.toRowW d [] (fun f vs => PySem.call f vs) :=
  Att.attach_call hn hdf fun w s0 s1 mg mb fa o pm cd doc a vs ns G Y _ _ _ hmg hobj hi hl hg => by
    obtain ⟨K, fd, cs, sp, KX, hT, nT, hC, hb, hsp, hF⟩ := F w mg fa _ Y G.T.g hmg
    exact end_call KX G.T.g G.T.b G.T.builtins G.T.nolimit hg hT nT hC G.T.bmain hobj hi (Nat.le_trans hl hn2) hr hF (hb s1 _) fun H hH hO hS => hsp H a ns hl hH hO hS
end Rf
set_option linter.all false
set_option maxRecDepth 100000
set_option maxHeartbeats 2000000
set_option Elab.async false
/-! Rf: what a law's head tells, turned to what the program needs. -/
namespace Rf
open PySem PySem.Spec PyProof.Rows L2
/-- how a def binds -/
def BdOk (p : Pd) : Prop := ∀ (kV doc pm : Value) (an : Option Addr) (cdv ct : Value) (us : List Value), us.length = p.ps.length → bindArgs (PySem.W.fnOf p.x p.x (defArgs p.st) (defBody p.st) (defScope p.st) .none kV doc pm an cdv ct) ⟨us, []⟩ = pure (p.ps.zip us)
def KbOk (p : Pd) (kw : List Nat) (ks : List Str) : Prop := ∀ (kV doc pm : Value) (an : Option Addr) (cdv ct : Value) (ws : List Value), ws.length = p.ps.length → ∃ ws', order kw ws = some ws' ∧ bindArgs (PySem.W.fnOf p.x p.x (defArgs p.st) (defBody p.st) (defScope p.st) .none kV doc pm an cdv ct) ⟨[], ks.zip ws⟩ = pure (p.ps.zip ws')
inductive AllP (q : Pd → Prop) : List Pd → Prop
  | nil : AllP q []
  | cons {p : Pd} {r : List Pd} : q p → AllP q r → AllP q (p :: r)
theorem AllP.get {q : Pd → Prop} : ∀ {l : List Pd} {i : Nat} {p : Pd}, AllP q l → l[i]? = some p → q p
  | _, 0, p, .cons h _, e => by cases (Option.some.inj e); exact h
  | _, i + 1, p, .cons _ h, e => h.get (i := i) (by simpa using e)
theorem pick_len {α : Type} {kw : List Nat} {xs : List α} : ∀ {ps : List Nat} {ys : List α}, pick kw xs ps = some ys → ys.length = ps.length
  | [], ys, e => by cases e; rfl
  | p :: ps, ys, e => by
    unfold pick at e
    split at e
    · rename_i q1 q2
      cases e
      rw [List.length_cons, List.length_cons, pick_len q2]
    · cases e
theorem order_len {α : Type} {kw : List Nat} {xs ys : List α} (e : order kw xs = some ys) : ys.length = xs.length := by
  unfold order at e
  split at e
  · cases e; rfl
  · rw [pick_len e, List.length_range]
section
variable {K : Fg} {h : Heap} {mg : Str → Option Value} {g : Gt} {pg : List Pd} {C : Nat → Addr} {P : Program}
theorem fact_of (c : He.SaysD (faOf g pg) (pg.map dOf) K) {f : He.Fa} (hf : f ∈ faOf g pg) : f.ok K = true := by
  obtain ⟨i, hi⟩ := List.mem_iff_getElem?.mp hf
  exact c.fact i hi
theorem bd_of {p : Pd} {f : Addr} {fd : FuncData} (F : FunD K p.x p.x (defArgs p.st) (defBody p.st) (defScope p.st) [] [] f fd) (b : BdOk p) : Binds K fd p.ps [] := F.bindsN b
theorem kb_of {p : Pd} {f : Addr} {fd : FuncData} {kw : List Nat} {ks : List Str} (F : FunD K p.x p.x (defArgs p.st) (defBody p.st) (defScope p.st) [] [] f fd) (b : KbOk p kw ks) : KwB K fd p.ps kw ks := by
  obtain ⟨oc, od, dV, kV, doc, pm, an, cdv, ct, osl, rfl, _, _, hD, _⟩ := F.ex
  rcases hD with ⟨_, rfl⟩ | ⟨e, _⟩
  · intro s ws ws' _ e hl
    obtain ⟨w2, e2, hb⟩ := b kV doc pm an cdv ct ws (by rw [← order_len e]; exact hl)
    rw [e] at e2
    cases e2
    exact .of_eq hb
  · exact absurd rfl e
end
end Rf
set_option linter.all false
set_option maxRecDepth 100000
set_option maxHeartbeats 2000000
set_option Elab.async false
/-! Rf: what a law's head tells of its own exception classes. -/
namespace Rf
open PySem PySem.Spec PyProof.Rows L2
theorem exB_ok {K : Fg} {C : Addr} (h : exB K C = true) : ∃ nm q N bs bm sn sub ab col dd k0 k1 k2 k3 k5, K.lookup C = some (excClassObj nm q C N bs bm true sn sub ab col dd k0 k1 k2 k3 k5 "ValueError.__new__") ∧ PySem.HandSPX.refsVE bm = true := by
  unfold exB at h
  cases e : K.lookup C with
  | none => rw [e] at h; cases h
  | some o =>
    obtain ⟨oc, od, dt, sl⟩ := o
    rw [e] at h
    cases oc with
    | type t =>
      cases dt with
      | cls cd =>
        obtain ⟨n1, n2, n3, n4, n5, n6, n7, n8, n9, n10, n11⟩ := cd
        simp only at h
        obtain ⟨h, h5⟩ := ba h
        obtain ⟨h, h4⟩ := ba h
        obtain ⟨h, h3⟩ := ba h
        obtain ⟨h1, h2⟩ := ba h
        have h1 := of_decide_eq_true h1
        subst h1
        have h2 : n6 = true := h2
        subst h2
        have h3 : n11 = false := by simpa using h3
        subst h3
        cases n3 with
        | nil => cases h4
        | cons v bm =>
          cases v with
          | ref c =>
            obtain ⟨h6, h7⟩ := ba (show (decide (c = C) && PySem.HandSPX.refsVE bm) = true from h4)
            have h6 := of_decide_eq_true h6
            subst h6
            split at h5
            · rename_i k0 k1 k2 k3 k4 k5 hs
              have h5 := of_decide_eq_true h5
              subst h5
              have hs : sl = #[k0, k1, k2, k3, some (.builtin "ValueError.__new__"), k5] := by
                apply Array.ext'
                rw [hs]
              subst hs
              exact ⟨n1, n5, n4, n2, bm, n7, n8, n9, n10, od, k0, k1, k2, k3, k5, rfl, h7⟩
            · cases h5
          | _ => cases h4
      | _ => cases h
    | _ => cases dt <;> cases h
theorem fnB_ok {prog : Program} {K : Fg} {C f : Addr} {d : IniD} (h : fnB prog K C f = true) (e : (match K.lookup f with
  | some ⟨_, _, .func fd, _⟩ => some (fd.name, fd.qualname, fd.params, fd.body, fd.scope, fd.globals, fd.closure.map (·.1), fd.builtins)
  | _ => none) = d.val) : ∃ (oc ccl cl : Value) (od cdd cld : Option Addr) (osl ccs csl : Array (Option Value)) (file : Str) (tf : Tok) (T : Addr) (oT : Obj) (dflt : Value) (nT : Nat) (kV doc pm ct : Value) (an : Option Addr) (cda cc : Addr) (vs : Array Value),
    K.lookup T = some oT ∧ oT.data = .seq #[dflt] nT ∧ K.lookup f = some ⟨oc, od, .func (PySem.W.ksFn "__init__" d.qual d.params d.body iniScope (.ref T) kV doc pm an (.ref cda) ct cc), osl⟩ ∧
    PySem.W.codeIn K (.ref cda) d.qual = true ∧ K.lookup cda = some ⟨ccl, cdd, .fields vs, ccs⟩ ∧ vs[2]? = some (.str file tf) ∧ ((prog.main.file : Str) == file) = true ∧ K.lookup cc = some ⟨cl, cld, .cell (some (.ref C)), csl⟩ := by
  unfold fnB at h
  cases q : K.lookup f with
  | none => rw [q] at h; cases h
  | some o =>
    obtain ⟨oc, od, dt, osl⟩ := o
    rw [q] at h e
    cases dt with
    | func fd =>
      obtain ⟨n1, n2, n3, n4, n5, n6, n7, n8, n9, n10, n11, n12, n13, n14, n15⟩ := fd
      have e2 : (some (n1, n2, n3, n4, n5, n6, n7.map (·.1), n15) : IniW) = some (("__init__" : Str), d.qual, d.params, FuncBody.stmts d.body, iniScope, mainGlobals, ([("__class__" : Str)] : List Str), builtinsNs) := e
      simp only [Option.some.injEq, Prod.mk.injEq] at e2
      obtain ⟨h1, h2, h3, h4, h5, h6, h7, h8⟩ := e2
      subst h1 h2 h3 h4 h5 h6 h8
      simp only at h
      obtain ⟨h, k4⟩ := ba h
      obtain ⟨h, k3⟩ := ba h
      obtain ⟨k1, k2⟩ := ba h
      obtain ⟨cda, ec⟩ := He.codeIn_ref k1
      subst ec
      simp only at k2
      cases q2 : K.lookup cda with
      | none => rw [q2] at k2; cases k2
      | some oo =>
        obtain ⟨ccl, cdd, cdt, ccs⟩ := oo
        rw [q2] at k2
        cases cdt with
        | fields vs =>
          simp only at k2
          cases q3 : (vs[2]? : Option Value) with
          | none => rw [q3] at k2; cases k2
          | some v =>
            rw [q3] at k2
            cases v with
            | str file tf =>
              match n7, h7, k3 with
              | [(a, cc)], h7, k3 =>
                simp only [List.map_cons, List.map_nil, List.cons.injEq, and_true] at h7
                subst h7
                simp only at k3
                cases q4 : K.lookup cc with
                | none => rw [q4] at k3; cases k3
                | some o4 =>
                  obtain ⟨cl, cld, cdt, csl⟩ := o4
                  rw [q4] at k3
                  cases cdt with
                  | cell cv =>
                    cases cv with
                    | none => cases k3
                    | some w =>
                      cases w with
                      | ref D =>
                        have k3 := of_decide_eq_true (show decide (D = C) = true from k3)
                        subst k3
                        cases n8 with
                        | ref T =>
                          simp only at k4
                          cases q5 : K.lookup T with
                          | none => rw [q5] at k4; cases k4
                          | some oT =>
                            obtain ⟨o1, o2, o3, o5⟩ := oT
                            rw [q5] at k4
                            cases o3 with
                            | seq its nT =>
                              have k4 : its.size = 1 := of_decide_eq_true k4
                              obtain ⟨dflt, hd⟩ : ∃ d, its = #[d] := Array.size_eq_one_iff.mp k4
                              subst hd
                              exact ⟨oc, ccl, cl, od, cdd, cld, osl, ccs, csl, file, tf, T, _, dflt, nT, n9, n10, n11, n14, n12, cda, cc, vs, q5, rfl, rfl, k1, q2, q3, k2, q4⟩
                            | _ => cases k4
                        | _ => cases k4
                      | _ => cases k3
                  | _ => cases k3
            | _ => cases k2
        | _ => cases k2
    | _ => cases h
/-- how such an __init__ binds, what it says -/
structure IbOk (d : IniD) : Prop where
  body : ∃ p0 p1 ap pv cp ep pa pv2 pb pw, d.body = iniBody p0 p1 ap pv cp ep pa pv2 pb pw ∧ (ap.endLine == cp.line) = true
  head : ∃ ar, (d.params.posonlyargs ++ d.params.args).head? = some ar ∧ ar.arg = "self"
  bind : ∀ (T : Addr) (dflt kV doc pm ct : Value) (an : Option Addr) (cda cc : Addr) (e v : Value), ∃ k, bindArgs (PySem.W.ksFn "__init__" d.qual d.params d.body iniScope (.ref T) kV doc pm an (.ref cda) ct cc) ⟨[e, v], []⟩ = seqItems? (.ref T) >>= k ∧ k (some #[dflt]) = pure ([(("self" : Str), e), (("value" : Str), v)] : List (Str × Value))
theorem ini_of {prog : Program} {K : Fg} {mg : Str → Option Value} {h : Heap} {d : IniD} (X : K.In h) (G : h.Ns mainGlobals mg) (sup : mg "super" = none) (hb : iniB prog K d.x = true) (he : iniW K d.x = d.val) (ib : IbOk d) : IniOk prog K mg (He.ga K d.x) (iniA K d.x) := by
  unfold iniB at hb
  obtain ⟨hb, b14⟩ := ba hb
  obtain ⟨hb, b13⟩ := ba hb
  obtain ⟨hb, b12⟩ := ba hb
  obtain ⟨hb, b11⟩ := ba hb
  obtain ⟨hb, b10⟩ := ba hb
  obtain ⟨hb, b9⟩ := ba hb
  obtain ⟨hb, b8⟩ := ba hb
  obtain ⟨hb, b7⟩ := ba hb
  obtain ⟨hb, b6⟩ := ba hb
  obtain ⟨hb, b5⟩ := ba hb
  obtain ⟨hb, b4⟩ := ba hb
  obtain ⟨hb, b3⟩ := ba hb
  obtain ⟨b1, b2⟩ := ba hb
  obtain ⟨oc, ccl, cl, od, cdd, cld, osl, ccs, csl, file, tf, T, oT, dflt, nT, kV, doc, pm, ct, an, cda, cc, vs, lT, dT, q1, q2, q3, q4, q5, q6⟩ := fnB_ok (d := d) b14 he
  obtain ⟨p0, p1, ap, pv, cp, ep, pa, pv2, pb, pw, hbody, hl⟩ := ib.body
  obtain ⟨ar, r1, r2⟩ := ib.head
  have hbind := ib.bind
  rw [hbody] at q1
  simp only [hbody] at hbind
  exact {
    oex := ⟨exB_ok b1, He.eqO_ok b2, of_decide_eq_true b3, of_decide_eq_true b4, b5⟩
    find := He.eqO_ok b6
    typ := of_decide_eq_true b7
    va := He.eqO_ok b8
    ini := He.eqO_ok b9
    sub := of_decide_eq_true b10
    self := of_decide_eq_true b11
    opq := He.eqO_ok b12
    sup := sup
    top := by simpa using b13
    fn := ⟨oc, ccl, cl, od, cdd, cld, osl, ccs, csl, d.qual, file, tf, d.params, .ref T, kV, doc, pm, ct, an, cda, cc, vs, ar, p0, p1, ap, pv, cp, ep, pa, pv2, pb, pw, q1, r1, r2, q2, q3, q4, q5, q6, hl, fun s e v X' => BindsTo.of_looks fun M => by
      obtain ⟨k, e1, e2⟩ := hbind T dflt kV doc pm ct an cda cc e v
      rw [e1]
      exact looks_items X' lT dT (.of_pure e2)⟩ }
end Rf
set_option linter.all false
set_option maxRecDepth 100000
set_option maxHeartbeats 2000000
set_option Elab.async false
/-! Rf: the whole of what a law's head tells. -/
namespace Rf
open PySem PySem.Spec PyProof.Rows L2
section
variable {K : Fg} {h : Heap} {mg : Str → Option Value} {g : Gt} {pg : List Pd} {C : Nat → Addr} {P : Program} {inis : List IniD} {w : World}
theorem tbl_mem {fa c Q : Addr} {oc : Value} {od : Option Addr} {osl : Array (Option Value)} {fd : FuncData} (lk : K.lookup fa = some ⟨oc, od, .func fd, osl⟩) (e : fd.code = .ref c) (hd : PySem.W.codeHdIn K c Q = true) : (Q, (fd.qualname ++ ".<locals>.") ++ "<lambda>") ∈ tbl K := by
  refine List.mem_filterMap.mpr ⟨_, He.lookup_mem lk, ?_⟩
  have hd := hd
  unfold PySem.W.codeHdIn at hd
  cases q : K.lookup c with
  | none => rw [q] at hd; cases hd
  | some o =>
    obtain ⟨cc, cd, dt, cs⟩ := o
    rw [q] at hd
    cases cc with
    | type t =>
      cases dt with
      | fields vs =>
        split at hd
        · rename_i vs' _ heq
          cases heq
          simp only [Bool.and_eq_true] at hd
          have h1 := hd.1.1.1.1.1
          cases q2 : (vs[11]? : Option Value) with
          | none => rw [q2] at h1; cases h1
          | some v =>
            rw [q2] at h1
            cases v with
            | ref P' =>
              have h1 : P' = Q := by simpa using h1
              subst h1
              have g : vs.getD 11 .none = .ref P' := by
                rw [Array.getD_eq_getD_getElem?, q2]; rfl
              simp only [e, q, g]
            | _ => cases h1
        · cases hd
      | _ => simp at hd
    | _ => simp at hd
theorem exOf_u (hx : exOf P pg inis g.tops K = true) {p q : Addr × Str} (hp : p ∈ tbl K) (hq : q ∈ tbl K) (e : p.1 = q.1) : p.2 = q.2 := by
  have h1 := (ba (ba (ba (ba hx).1).1).1).1
  have := List.all_eq_true.mp (List.all_eq_true.mp h1 p hp) q hq
  rcases Bool.or_eq_true_iff.mp this with z | z
  · rw [decide_eq_true e] at z; cases z
  · exact of_decide_eq_true z
theorem exOf_kit (hx : exOf P pg inis g.tops K = true) {y : Str} (h : y ∈ g.tops) : kitX K (inis.map (·.x)) y = true := List.all_eq_true.mp (ba hx).2 y h
theorem exOf_ini (hx : exOf P pg inis g.tops K = true) {d : IniD} (h : d ∈ inis) : iniB P K d.x = true := List.all_eq_true.mp (ba (ba hx).1).2 d h
theorem exOf_in (hx : exOf P pg inis g.tops K = true) {p : Addr × Str} (hp : p ∈ tbl K) : ∃ d ∈ tfOf pg inis, (He.cT K d).2 = p.1 := by
  have h1 := (ba (ba (ba (ba hx).1).1).1).2
  obtain ⟨d, hd, e⟩ := List.any_eq_true.mp (List.all_eq_true.mp h1 p hp)
  exact ⟨d, hd, of_decide_eq_true e⟩
theorem exOf_cov (hx : exOf P pg inis g.tops K = true) {d : He.Defn} (hd : d ∈ tfOf pg inis) : ∃ p ∈ tbl K, p.1 = (He.cT K d).2 := by
  have h1 := (ba (ba (ba hx).1).1).2
  obtain ⟨p, hp, e⟩ := List.any_eq_true.mp (List.all_eq_true.mp h1 d hd)
  exact ⟨p, hp, of_decide_eq_true e⟩
def csOf (pg : List Pd) (inis : List IniD) (K : Fg) : List (Addr × Addr) := (tfOf pg inis).map (He.cT K)
theorem pg_of {fn : List He.DefD} (X : K.In h) (G : h.Ns mainGlobals mg) (c : He.SaysX (faOf g pg) (pg.map dOf) [] (tfOf pg inis) (exOf P pg inis g.tops) w h K) (ci : (inis.map fun d => iniW K d.x) = inis.map IniD.val) (sup : ("super" : Str) ∈ g.free) (gi : g.cls = inis.map (·.x)) (ib : ∀ d ∈ inis, IbOk d) (nm : pg.map (·.x) = g.fns) (ch : AllP (fun p => chP g p = true ∨ p.F.body = badB) pg) (rf : chR g pg = true) (bd : AllP BdOk pg) (kb : ∀ i kw ks p, (i, kw, ks) ∈ g.kws → pg[i]? = some p → KbOk p kw ks)
    (hC : ∀ (i : Nat) (x : Str), g.cls[i]? = some x → C i = He.ga K x) : PgOk P K mg g C pg (csOf pg inis K) := by
  have cd : He.SaysD (faOf g pg) (pg.map dOf) K := c.t.d
  have free : ∀ x, x ∈ g.free → mg x = none := fun x hx => He.free_ok X G (fact_of cd (List.mem_append_right _ (List.mem_append_right _ (List.mem_append_right _ (List.mem_append_right _ (List.mem_append_left _ (List.mem_map.mpr ⟨x, hx, rfl⟩)))))))
  have glo : ∀ p ∈ pg, mg p.x = some (.ref (He.ga K p.x)) := fun p hp => He.glo_ok X G (fact_of cd (List.mem_append_left _ (List.mem_map.mpr ⟨p, hp, rfl⟩)))
  have cls : ∀ (i : Nat) (x : Str), g.cls[i]? = some x → mg x = some (.ref (C i)) ∧ ∃ fI, IniOk P K mg (C i) fI := fun i x hx => by
    have hm := List.mem_of_getElem? hx
    rw [hC i x hx]
    refine ⟨He.glo_ok X G (fact_of cd ?_), ?_⟩
    · exact List.mem_append_right _ (List.mem_append_left _ (List.mem_map.mpr ⟨x, hm, rfl⟩))
    · rw [gi] at hm
      obtain ⟨d, hd, rfl⟩ := List.mem_map.mp hm
      obtain ⟨j, hj⟩ := List.mem_iff_getElem?.mp hd
      have e2 : (inis.map fun d => iniW K d.x)[j]? = (inis.map IniD.val)[j]? := by rw [ci]
      rw [List.getElem?_map, List.getElem?_map, hj] at e2
      exact ⟨_, ini_of X G (free _ sup) (exOf_ini c.more hd) (Option.some.inj e2) (ib d hd)⟩
  exact {
    tb := fun p hp fa oc od dV kV doc pm an cdv ct osl hm lk => by
      have e := glo p hp
      rw [hm] at e
      cases e
      obtain ⟨i, hi⟩ := List.mem_iff_getElem?.mp hp
      obtain ⟨fd, F⟩ := cd.def_ i (d := dOf p) (by rw [List.getElem?_map, hi]; rfl)
      obtain ⟨oc', od', dV', kV', doc', pm', an', cdv', ct', osl', rfl, lk', hcd, _, _⟩ := F.ex
      have lk' : K.lookup (He.ga K p.x) = some ⟨oc', od', .func (PySem.W.fnOf p.x p.x (defArgs p.st) (defBody p.st) (defScope p.st) dV' kV' doc' pm' an' cdv' ct'), osl'⟩ := lk'
      rw [lk] at lk'
      cases lk'
      obtain ⟨c0, rfl⟩ := He.codeIn_ref hcd
      have hd0 : ((p.x, none) : He.Defn) ∈ tfOf pg inis := List.mem_append_left _ (List.mem_map.mpr ⟨p, hp, rfl⟩)
      have ec : He.codeOf K (p.x, none) = c0 := He.codeOf_eq (p := (p.x, none)) lk rfl
      have hd := c.hd _ hd0
      have e1 : (He.cT K (p.x, none)) = (c0, He.tabOf K c0) := by unfold He.cT; rw [ec]
      rw [e1] at hd
      have hm := tbl_mem lk rfl hd
      exact ⟨c0, He.tabOf K c0, rfl, List.mem_map.mpr ⟨_, hd0, e1⟩, hm, fun q hq z => exOf_u c.more hq hm z⟩
    nm := nm
    fn := fun i p hp => by
      obtain ⟨fd, F⟩ := cd.def_ i (d := dOf p) (by rw [List.getElem?_map, hp]; rfl)
      exact ⟨_, fd, glo p (List.mem_of_getElem? hp), F, bd_of F (bd.get hp), fun kw ks hk => kb_of F (kb i kw ks p hk hp)⟩
    cl := cls
    gi := fun n x i hx => He.int_ok X G (fact_of cd (List.mem_append_right _ (List.mem_append_right _ (List.mem_append_right _ (List.mem_append_left _ (List.mem_map.mpr ⟨(x, i), List.mem_of_getElem? hx, rfl⟩))))))
    free := free
    ch := fun i p hp => ch.get hp
    ra := fun ia hg => chA2_of rf ia hg
    rf := fun al ic ir hg => by
      have rf := (ba rf).1
      unfold chR0 at rf
      rw [hg] at rf
      obtain ⟨rf, r4⟩ := ba rf
      obtain ⟨rf, r3⟩ := ba rf
      obtain ⟨r1, r2⟩ := ba rf
      cases q1 : pg[ic]? with
      | none => simp [q1] at r1
      | some pc =>
        cases q2 : pg[ir]? with
        | none => simp [q1, q2] at r1
        | some pr =>
          simp only [q1, q2] at r1
          obtain ⟨r1, s6⟩ := ba r1
          obtain ⟨r1, s5⟩ := ba r1
          obtain ⟨r1, s4⟩ := ba r1
          obtain ⟨r1, s3⟩ := ba r1
          obtain ⟨s1, s2⟩ := ba r1
          have r4 := of_decide_eq_true r4
          have kb2 := kitX_ok (exOf_kit c.more r4)
          refine ⟨pc, pr, He.ga K "LineError", rfl, of_decide_eq_true s1, of_decide_eq_true s2, s3, rfl, of_decide_eq_true s4, of_decide_eq_true s5, s6, ⟨?_, fun i x hx => ?_, fun y hy => ?_, fun y hy => ?_⟩⟩
          · exact He.glo_ok X G (fact_of cd (List.mem_append_right _ (List.mem_append_right _ (List.mem_append_right _ (List.mem_append_right _ (List.mem_append_right _ (List.mem_map.mpr ⟨_, r4, rfl⟩)))))))
          · obtain ⟨m1, fI, m2⟩ := cls i x hx
            have hm : x ∈ inis.map (·.x) := by rw [← gi]; exact List.mem_of_getElem? hx
            obtain ⟨e1, e2, e3, e4⟩ := kb2 x hm
            have hC1 := hC i x hx
            refine ⟨m1, by rw [hC1]; exact e1, by rw [hC1]; exact e2, m2.va, by rw [hC1]; exact e3, fun j y hy => ?_⟩
            rw [hC1, hC j y hy]
            exact e4 y (by rw [← gi]; exact List.mem_of_getElem? hy)
          · exact of_decide_eq_true (List.all_eq_true.mp r2 y hy)
          · exact of_decide_eq_true (List.all_eq_true.mp r3 y hy) }
/-- the law's own def -/
theorem law_of {i k : Nat} {p : Pd} {fa : Addr} (X : K.In h) (G : h.Ns mainGlobals mg) (c : He.SaysX (faOf g pg) (pg.map dOf) [] (tfOf pg inis) (exOf P pg inis g.tops) w h K) (ci : (inis.map fun d => iniW K d.x) = inis.map IniD.val) (sup : ("super" : Str) ∈ g.free) (gi : g.cls = inis.map (·.x)) (ib : ∀ d ∈ inis, IbOk d) (nm : pg.map (·.x) = g.fns) (ch : AllP (fun p => chP g p = true ∨ p.F.body = badB) pg) (rf : chR g pg = true) (bd : AllP BdOk pg) (kb : ∀ i kw ks p, (i, kw, ks) ∈ g.kws → pg[i]? = some p → KbOk p kw ks)
    (hp : pg[i]? = some p) (h1 : p.ps = ([("script" : Str)] : List Str)) (hm : mg p.x = some (.ref fa)) (hG : ∀ ns : List Int, ns.length ≤ 63 → ∃ ws, depth (pg.map Pd.F) k i [.sh (.lst .ro (ns.map .int))] = .ret (.fz (.bl true)) ws) :
    ∃ (K : Fg) (fd : FuncData) (cs : List (Addr × Addr)) (sp : Sp), K.In h ∧ (∀ p ∈ cs, h.get? p.2 = some { cls := .none, data := .fields #[] }) ∧ (∀ p ∈ cs, K.lookup p.2 = none) ∧ (∀ p ∈ cs, PySem.W.CodeHd h p.1 p.2) ∧ (∀ (s : Shared) (u : Value), BindsTo s fd ⟨[u], []⟩ [(("script" : Str), u)]) ∧
      (∀ (H : Hp) (a : Addr) (ns : List Int), ns.length ≤ 63 → (∀ p ∈ cs, H p.2 = some (.tbl #[])) → (∀ c ps, H c = some (.tbl ps) → ∃ p ∈ cs, c = p.2) → SqL K H a (ns.map V.int) → sp [.ref a] H (fun v _ => v = .bl true) fun _ _ _ => False) ∧
      ∀ bs : Heap, K.In bs → bs.Ns mainGlobals mg → (∀ p ∈ cs, LamX.TabB bs mg p.1 p.2) → FnG P w K mg bs (L2.CX P w) (5 * k) fa fd ([("script" : Str)] : List Str) sp := by
  have o : PgOk P K mg g (fun i => He.ga K (g.cls.getD i "")) pg (csOf pg inis K) := pg_of (fn := []) X G c ci sup gi ib nm ch rf bd kb (fun i x hx => by simp only [List.getD, hx, Option.getD_some])
  obtain ⟨fa', fd, e, F, b, _⟩ := o.fn i p hp
  rw [hm] at e
  cases e
  have hmore := c.more
  have of : ∀ q ∈ csOf pg inis K, ∃ d ∈ tfOf pg inis, He.cT K d = q := fun q hq => List.mem_map.mp hq
  refine ⟨K, fd, csOf pg inis K, spOf K (fun i => He.ga K (g.cls.getD i "")) (depth (pg.map Pd.F) k i), X, fun q hq => ?_, fun q hq => ?_, fun q hq => ?_, fun s u => ?_, fun H a ns hl hH hO hS => law_sp hG H a ns hl hS ⟨fun q hq => ?_, fun c ps z => ?_⟩, fun bs _ _ hTB => h1 ▸ pg_ok o hTB k i p hp fa fd hm F⟩
  · obtain ⟨d, hd, rfl⟩ := of q hq; exact c.empty d hd
  · obtain ⟨d, hd, rfl⟩ := of q hq; exact c.out d hd
  · obtain ⟨d, hd, rfl⟩ := of q hq; exact PySem.W.codeHd_of_K X (c.hd d hd)
  · have := FunD.bindsA F (bd.get hp) s [u] (by rw [h1]; rfl)
    rwa [h1] at this
  · obtain ⟨d, hd, e⟩ := exOf_in c.more hq
    exact LamX.TabS.nil (by rw [← e]; exact hH _ (List.mem_map.mpr ⟨d, hd, rfl⟩))
  · obtain ⟨q, hq, rfl⟩ := hO _ ps z
    obtain ⟨d, hd, rfl⟩ := of q hq
    exact exOf_cov hmore hd
end
end Rf
set_option linter.all false
set_option maxRecDepth 100000
set_option maxHeartbeats 1000000
set_option Elab.async false
/-! Rf, the value layer: what a piece of own syntax does, said by what must hold behind it. -/
namespace Rv
open Rf
open PySem (Str PyData)
abbrev EX := Nat → D → Envr → Prop
def wp {α : Type} (m : M α) (δ : Envr) (Q : α → Envr → Prop) (X : EX) : Prop := match m δ with
  | .ok a δ' => Q a δ'
  | .exn c d δ' => X c d δ'
  | .bad _ => False
abbrev NX : EX := fun _ _ _ => False
/-- an environment that stands written out -/
class Lit (δ : Envr) : Prop where
  t : True
instance : Lit [] := ⟨trivial⟩
instance (a : SV) (l : Envr) : Lit (a :: l) := ⟨trivial⟩
section
variable {α β : Type} {δ : Envr} {X : EX}
theorem wp_pure (a : α) (Q : α → Envr → Prop) : wp (pure a : M α) δ Q X = Q a δ := (rfl)
theorem wp_bind (m : M α) (f : α → M β) (Q : β → Envr → Prop) : wp (m >>= f) δ Q X = wp m δ (fun a δ' => wp (f a) δ' Q X) X := by
  show (match M.bind m f δ with | .ok a δ' => Q a δ' | .exn c d δ' => X c d δ' | .bad _ => False) = _
  unfold M.bind wp
  cases m δ <;> rfl
theorem wp_ok {m : M α} {a : α} {δ' : Envr} {Q : α → Envr → Prop} (h : m δ = .ok a δ') : wp m δ Q X = Q a δ' := by
  unfold wp; rw [h]
theorem wp_mono {m : M α} {Q Q' : α → Envr → Prop} {X' : EX} (h : wp m δ Q X) (hq : ∀ a δ', Q a δ' → Q' a δ') (hx : ∀ c d δ', X c d δ' → X' c d δ') : wp m δ Q' X' := by
  unfold wp at h ⊢
  cases e : m δ with
  | ok a δ' => rw [e] at h; exact hq _ _ h
  | exn c d δ' => rw [e] at h; exact hx _ _ _ h
  | bad n => rw [e] at h; exact h
theorem wp_Q {m : M α} {Q Q' : α → Envr → Prop} (h : wp m δ Q X) (hq : ∀ a δ', Q a δ' → Q' a δ') : wp m δ Q' X := wp_mono h hq fun _ _ _ h => h
theorem ok_of_wp {m : M α} {a : α} {δ' : Envr} (h : wp m δ (fun b e => b = a ∧ e = δ') NX) : m δ = .ok a δ' := by
  unfold wp at h
  cases e : m δ with
  | ok b e' => rw [e] at h; rw [h.1, h.2]
  | exn c d e' => rw [e] at h; exact h.elim
  | bad n => rw [e] at h; exact h.elim
theorem wp_fail (n : Nat) (Q : α → Envr → Prop) : wp (fail n : M α) δ Q X = False := (rfl)
/-- a choice that must be made -/
def oq {γ : Type} (o : Option γ) (δ : Envr) (P : γ → Envr → Prop) : Prop := match o with
  | some a => P a δ
  | none => False
@[simp] theorem oq_some {γ : Type} (a : γ) (P : γ → Envr → Prop) : oq (some a) δ P = P a δ := (rfl)
@[simp] theorem oq_none {γ : Type} (P : γ → Envr → Prop) : oq (none : Option γ) δ P = False := (rfl)
@[simp] theorem oq_if {γ : Type} (c : Prop) [Decidable c] (o : Option γ) (P : γ → Envr → Prop) : oq (if c then o else none) δ P = (c ∧ oq o δ P) := by
  by_cases h : c <;> simp [h]
@[simp] theorem oq_if2 {γ : Type} (c : Prop) [Decidable c] (o : Option γ) (P : γ → Envr → Prop) : oq (if c then none else o) δ P = (¬c ∧ oq o δ P) := by
  by_cases h : c <;> simp [h]
def sq (o : Option SV) (δ : Envr) (P : D → Envr → Prop) (R : List D → Envr → Prop) : Prop := match o with
  | some (.sh d) => P d δ
  | some (.ow ds) => R ds δ
  | _ => False
@[simp] theorem sq_sh (d : D) (P : D → Envr → Prop) (R : List D → Envr → Prop) : sq (some (.sh d)) δ P R = P d δ := (rfl)
@[simp] theorem sq_ow (d : List D) (P : D → Envr → Prop) (R : List D → Envr → Prop) : sq (some (.ow d)) δ P R = R d δ := (rfl)
@[simp] theorem sq_none (P : D → Envr → Prop) (R : List D → Envr → Prop) : sq none δ P R = False := (rfl)
@[simp] theorem sq_un (P : D → Envr → Prop) (R : List D → Envr → Prop) : sq (some .un) δ P R = False := (rfl)
def iq (d : D) (δ : Envr) (P : Int → Envr → Prop) : Prop := match d with
  | .int i => P i δ
  | _ => False
@[simp] theorem iq_int (i : Int) (P : Int → Envr → Prop) : iq (.int i) δ P = P i δ := (rfl)
def lq (d : D) (δ : Envr) (P : List D → Envr → Prop) : Prop := match d with
  | .lst _ xs => P xs δ
  | _ => False
@[simp] theorem lq_lst (f : Lb) (xs : List D) (P : List D → Envr → Prop) : lq (.lst f xs) δ P = P xs δ := (rfl)
def ltq (d : D) (δ : Envr) (P : List D → Envr → Prop) : Prop := match d with
  | .lst _ xs => P xs δ
  | .tup xs => P xs δ
  | _ => False
@[simp] theorem ltq_lst (f : Lb) (xs : List D) (P : List D → Envr → Prop) : ltq (.lst f xs) δ P = P xs δ := (rfl)
@[simp] theorem ltq_tup (xs : List D) (P : List D → Envr → Prop) : ltq (.tup xs) δ P = P xs δ := (rfl)
theorem wp_ofO (n : Nat) (o : Option α) (Q : α → Envr → Prop) : wp (ofO n o) δ Q X = oq o δ Q := by
  cases o <;> rfl
theorem wp_retO (n : Nat) (o : Option OR) (Q : Rs → Envr → Prop) : wp (retO n o) δ Q X = oq o δ fun a δ => Q a.rs δ := by
  cases o <;> rfl
@[simp] theorem rs_val (d : D) : OR.rs (.val d) = .fz d := (rfl)
@[simp] theorem rs_new (d : List D) : OR.rs (.new d) = .nw d := (rfl)
def rdS (o : Option SV) : Option D := match o with
  | some (.sh d) => some d
  | some (.ow ds) => some (.lst .nu ds)
  | _ => none
@[simp] theorem rdS_sh (d : D) : rdS (some (.sh d)) = some d := (rfl)
@[simp] theorem rdS_ow (d : List D) : rdS (some (.ow d)) = some (.lst .nu d) := (rfl)
@[simp] theorem rd_fz (d : D) : rd δ (.fz d) = some d := (rfl)
@[simp] theorem rd_nw (ds : List D) : rd δ (.nw ds) = some (.lst .nu ds) := (rfl)
@[simp] theorem rd_sl (i : Nat) [Lit δ] : rd δ (.sl i) = rdS δ[i]? := by
  unfold rd rdS
  cases h : δ[i]? with
  | none => simp [h]
  | some v => cases v <;> simp [h]
theorem wp_rdM (r : Rs) (Q : D → Envr → Prop) : wp (rdM r) δ Q X = oq (rd δ r) δ Q := by
  unfold wp rdM
  cases rd δ r <;> rfl
/-- by a value's truth -/
def tq (r : Rs) (δ : Envr) (P : Bool → Envr → Prop) : Prop := oq (rd δ r) δ fun d δ => oq d.truth δ P
@[simp] theorem tq_eq (r : Rs) [Lit δ] (P : Bool → Envr → Prop) : tq r δ P = oq (rd δ r) δ fun d δ => oq d.truth δ P := (rfl)
theorem wp_truM (r : Rs) (Q : Bool → Envr → Prop) : wp (truM r) δ Q X = tq r δ Q := by
  unfold wp truM tq
  cases rd δ r with
  | none => rfl
  | some d => cases h : d.truth <;> simp [h]
/-- handed on for keeping -/
def eq_ (r : Rs) (δ : Envr) (P : D → Envr → Prop) : Prop := wp (esc r) δ P NX
theorem wp_esc (r : Rs) (Q : D → Envr → Prop) : wp (esc r) δ Q X = eq_ r δ Q := by
  unfold eq_ wp esc
  cases r with
  | fz d => rfl
  | nw ds => rfl
  | sl i =>
    cases h : δ[i]? with
    | none => simp [h]
    | some v => cases v <;> simp [h]
@[simp] theorem esc_fz (d : D) (Q : D → Envr → Prop) : eq_ (.fz d) δ Q = Q d δ := (rfl)
@[simp] theorem esc_nw (ds : List D) (Q : D → Envr → Prop) : eq_ (.nw ds) δ Q = Q (.lst .nu ds) δ := (rfl)
@[simp] theorem esc_sl (i : Nat) [Lit δ] (Q : D → Envr → Prop) : eq_ (.sl i) δ Q = sq δ[i]? δ Q (fun ds δ => Q (.lst .nu ds) (δ.set i (.sh (.lst .nu ds)))) := by
  unfold eq_ wp esc
  cases h : δ[i]? with
  | none => simp [h]
  | some v => cases v <;> simp [h]
theorem wp_ite (c : Prop) [Decidable c] (a b : M α) (Q : α → Envr → Prop) : wp (if c then a else b) δ Q X = if c then wp a δ Q X else wp b δ Q X := by
  by_cases h : c <;> simp [h]
theorem wp_needOw (i : Nat) (Q : Unit → Envr → Prop) : wp (needOw i) δ Q X = sq δ[i]? δ (fun _ _ => False) (fun _ δ => Q () δ) := by
  unfold wp needOw
  cases h : δ[i]? with
  | none => simp [h, sq]
  | some v => cases v <;> simp [h]
def wok (w : Option (Nat × List D)) (δ : Envr) : Prop := match w with
  | none => True
  | some (i, ds) => δ[i]? = some (.ow ds)
@[simp] theorem wok_none : wok none δ = True := (rfl)
@[simp] theorem wok_some (i : Nat) (ds : List D) [Lit δ] : wok (some (i, ds)) δ = (δ[i]? = some (.ow ds)) := (rfl)
theorem wp_watch (w : Option (Nat × List D)) (Q : Unit → Envr → Prop) : wp (watch w) δ Q X = (wok w δ ∧ Q () δ) := by
  unfold wp watch wok
  cases w with
  | none => simp
  | some p => obtain ⟨i, ds⟩ := p; by_cases h : δ[i]? = some (.ow ds) <;> simp [h]
def kpW (w : Option (Nat × List D)) (δ : Envr) : Envr := match w with
  | none => δ
  | some (i, ds) => δ.set i (.sh (.lst .nu ds))
@[simp] theorem kpW_none : kpW none δ = δ := (rfl)
@[simp] theorem kpW_some (i : Nat) (ds : List D) [Lit δ] : kpW (some (i, ds)) δ = δ.set i (.sh (.lst .nu ds)) := (rfl)
theorem wp_keepW (w : Option (Nat × List D)) (Q : Unit → Envr → Prop) : wp (keepW w) δ Q X = Q () (kpW w δ) := by
  cases w <;> rfl
theorem wp_seqW (r : Rs) (Q : List D × Option (Nat × List D) → Envr → Prop) : wp (seqW r) δ Q X = oq (rd δ r) δ fun d δ => oq d.items δ fun xs δ => Q (xs, ownW δ r) δ := by
  unfold wp seqW
  cases h : rd δ r with
  | none => simp [h]
  | some d => cases h2 : d.items <;> simp [h, h2]
theorem wp_lstW (r : Rs) (Q : List D × Option (Nat × List D) → Envr → Prop) : wp (lstW r) δ Q X = oq (rd δ r) δ fun d δ => lq d δ fun xs δ => Q (xs, ownW δ r) δ := by
  unfold wp lstW
  cases h : rd δ r with
  | none => simp [h]
  | some d => cases d <;> simp [h, lq]
@[simp] theorem ownW_fz (d : D) : ownW δ (.fz d) = none := (rfl)
@[simp] theorem ownW_nw (d : List D) : ownW δ (.nw d) = none := (rfl)
def ownS (i : Nat) (o : Option SV) : Option (Nat × List D) := match o with
  | some (.ow ds) => some (i, ds)
  | _ => none
@[simp] theorem ownS_ow (i : Nat) (ds : List D) : ownS i (some (.ow ds)) = some (i, ds) := (rfl)
@[simp] theorem ownS_sh (i : Nat) (d : D) : ownS i (some (.sh d)) = none := (rfl)
@[simp] theorem ownW_sl (i : Nat) [Lit δ] : ownW δ (.sl i) = ownS i δ[i]? := by
  unfold ownW ownS
  cases h : δ[i]? with
  | none => simp [h]
  | some v => cases v <;> simp [h]
end
/-! ### loops -/
section
variable {α : Type} {δ : Envr} {X : EX}
theorem wp_noExn {β : Type} (m : M β) (Q : β → Envr → Prop) : wp (noExn m) δ Q X = wp m δ Q NX := by
  unfold wp noExn
  cases e : m δ <;> simp [e]
theorem watch_ok {w : Option (Nat × List D)} (h : wok w δ) : watch w δ = .ok () δ := by
  unfold watch
  cases w with
  | none => rfl
  | some p => obtain ⟨i, ds⟩ := p; exact if_pos h
/-- a comprehension whose items leave everything as it is -/
theorem compL_map {w : Option (Nat × List D)} {f : D → M (Option D)} (g : α → D) (h : α → Option D) (hw : wok w δ) : ∀ l : List α, (∀ a ∈ l, f (g a) δ = .ok (h a) δ) → compL w f (l.map g) δ = .ok (l.filterMap h) δ
  | [], _ => rfl
  | a :: l, H => by
    have h1 := H a List.mem_cons_self
    have h2 := compL_map g h hw l fun b hb => H b (List.mem_cons_of_mem _ hb)
    show M.bind (f (g a)) _ δ = _
    simp only [M.bind, h1]
    show M.bind (watch w) _ δ = _
    simp only [M.bind, watch_ok hw]
    show M.bind (compL w f (l.map g)) _ δ = _
    simp only [M.bind, h2]
    cases e : h a <;> simp [e, pure]
theorem wp_compL {w : Option (Nat × List D)} {f : D → M (Option D)} {Q : List D → Envr → Prop} (g : α → D) (h : α → Option D) (l : List α) (hw : wok w δ) (H : ∀ a ∈ l, wp (f (g a)) δ (fun o e => o = h a ∧ e = δ) NX) (q : Q (l.filterMap h) δ) : wp (compL w f (l.map g)) δ Q X := by
  rw [wp_ok (compL_map g h hw l fun a ha => ok_of_wp (H a ha))]
  exact q
/-- a comprehension by an invariant -/
theorem wp_compI {w : Option (Nat × List D)} {f : D → M (Option D)} {Q : List D → Envr → Prop} (g : α → D) (I : List α → List D → Envr → Prop) : ∀ (l : List α) (acc : List D) (δ : Envr), I l acc δ → (∀ a r acc δ, I (a :: r) acc δ → wp (f (g a)) δ (fun o e => wok w e ∧ I r (acc ++ o.toList) e) X) → (∀ acc' δ, I [] (acc ++ acc') δ → Q acc' δ) → wp (compL w f (l.map g)) δ Q X
  | [], acc, δ, h0, _, he => by
    show Q [] δ
    exact he [] δ (by simpa using h0)
  | a :: l, acc, δ, h0, hs, he => by
    show wp (f (g a) >>= _) δ Q X
    rw [wp_bind]
    refine wp_Q (hs a l acc δ h0) fun o e ⟨q1, q2⟩ => ?_
    rw [wp_bind, wp_ok (watch_ok q1), wp_bind]
    refine wp_compI g I l (acc ++ o.toList) e q2 hs fun acc' δ' k => ?_
    cases o with
    | none => exact he acc' δ' (by simpa using k)
    | some d => exact he (d :: acc') δ' (by simpa using k)
theorem wp_forL {f : D → M Out} {Q : Out → Envr → Prop} (g : α → D) (I : List α → Envr → Prop) : ∀ (l : List α) (δ : Envr), I l δ → (∀ a r δ, I (a :: r) δ → wp (f (g a)) δ (fun o e => match o with | .nx => I r e | .bk => Q .nx e | .ret v => Q (.ret v) e) X) → (∀ δ, I [] δ → Q .nx δ) → wp (forL f (l.map g)) δ Q X
  | [], δ, h0, _, he => he δ h0
  | a :: l, δ, h0, hs, he => by
    show wp (f (g a) >>= _) δ Q X
    rw [wp_bind]
    refine wp_Q (hs a l δ h0) fun o e k => ?_
    cases o with
    | nx => exact wp_forL g I l e k hs he
    | bk => exact k
    | ret v => exact k
theorem wp_whileL {c : M Bool} {b : M Out} {Q : Out → Envr → Prop} (I : Nat → Envr → Prop) : ∀ (n : Nat) (m : Nat) (δ : Envr), m < n → I m δ → (∀ m δ, I m δ → wp c δ (fun t e => if t = true then wp b e (fun o e' => match o with | .nx => ∃ m', m' < m ∧ I m' e' | .bk => Q .nx e' | .ret v => Q (.ret v) e') X else Q .nx e) X) → wp (whileL c b n) δ Q X
  | 0, _, _, h, _, _ => absurd h (Nat.not_lt_zero _)
  | n + 1, m, δ, h, h0, hs => by
    show wp (c >>= _) δ Q X
    rw [wp_bind]
    refine wp_Q (hs m δ h0) fun t e k => ?_
    cases t with
    | false => exact k
    | true =>
      show wp (b >>= _) e Q X
      rw [wp_bind]
      refine wp_Q k fun o e' k' => ?_
      cases o with
      | nx =>
        obtain ⟨m', hm, hi⟩ := k'
        exact wp_whileL I n m' e' (by omega) hi hs
      | bk => exact k'
      | ret v => exact k'
end
/-! ### calls -/
section
variable {cf : CF} {δ : Envr} {X : EX}
/-- what a call's result must meet -/
def fq (r : FR) (as : List Arg) (δ : Envr) (Q : Rs → Envr → Prop) (X : EX) : Prop := match r with
  | .ret (.sl _) _ => False
  | .ret r ws => Q r (putBack as ws δ)
  | .exn c d ws => X c d (putBack as ws δ)
  | .bad _ => False
theorem wp_callF (f : Nat) (as : List Arg) (Q : Rs → Envr → Prop) : wp (callF cf f as) δ Q X = (oneIo as = true ∧ oq (argsSV δ as) δ fun vs δ => fq (cf f vs) as δ Q X) := by
  unfold wp callF fq
  cases h1 : oneIo as with
  | false => simp
  | true =>
    cases h2 : argsSV δ as with
    | none => simp
    | some vs =>
      simp
      cases cf f vs with
      | ret r ws => cases r <;> rfl
      | exn c d ws => rfl
      | bad n => rfl
@[simp] theorem fq_fz (d : D) (ws : List SV) (as : List Arg) (Q : Rs → Envr → Prop) : fq (.ret (.fz d) ws) as δ Q X = Q (.fz d) (putBack as ws δ) := (rfl)
@[simp] theorem fq_nw (d : List D) (ws : List SV) (as : List Arg) (Q : Rs → Envr → Prop) : fq (.ret (.nw d) ws) as δ Q X = Q (.nw d) (putBack as ws δ) := (rfl)
@[simp] theorem fq_exn (c : Nat) (d : D) (ws : List SV) (as : List Arg) (Q : Rs → Envr → Prop) : fq (.exn c d ws) as δ Q X = X c d (putBack as ws δ) := (rfl)
@[simp] theorem fq_if (c : Prop) [Decidable c] (a b : FR) (as : List Arg) (Q : Rs → Envr → Prop) : fq (if c then a else b) as δ Q X = if c then fq a as δ Q X else fq b as δ Q X := by
  by_cases h : c <;> simp [h]
theorem run_wp {F : Fn} {as : List SV} {r : FR} (hl : as.length = F.np) (h : wp (execs cf (as ++ List.replicate (F.ns - F.np) .un) F.body) (as ++ List.replicate (F.ns - F.np) .un) (fun o e => back F.nas as (.ok o e) = r) (fun c d e => back F.nas as (.exn c d e) = r)) : F.run cf as = r := by
  unfold Fn.run
  rw [if_pos hl]
  unfold wp at h
  cases e : execs cf (as ++ List.replicate (F.ns - F.np) .un) F.body (as ++ List.replicate (F.ns - F.np) .un) with
  | ok a δ' => rw [e] at h; simpa [e] using h
  | exn c d δ' => rw [e] at h; simpa [e] using h
  | bad n => rw [e] at h; exact h.elim
/-- a def of a program, run -/
theorem depth_wp {P : List Fn} {k f np ns : Nat} {nas : List Nat} {body : Sts} {as : List SV} {r : FR} (hf : P[f]? = some ⟨np, ns, nas, body⟩) (hl : as.length = np) (h : wp (execs (depth P k) (as ++ List.replicate (ns - np) .un) body) (as ++ List.replicate (ns - np) .un) (fun o e => back nas as (.ok o e) = r) (fun c d e => back nas as (.exn c d e) = r)) : depth P (k + 1) f as = r := by
  show (match P[f]? with | some F => F.run (depth P k) as | none => .bad 44) = r
  rw [hf]
  exact run_wp hl h
end
/-! ### expressions -/
section
variable {cf : CF} {δ : Envr} {X : EX} [Lit δ] {Q : Rs → Envr → Prop}
@[simp] theorem x_var (i : Nat) : wp (ev cf (.var i)) δ Q X = sq δ[i]? δ (fun d δ => Q (.fz d) δ) (fun _ δ => Q (.sl i) δ) := by
  unfold wp
  rw [ev.eq_1]
  cases h : δ[i]? with
  | none => simp [h, sq]
  | some v => cases v <;> simp [h]
@[simp] theorem x_cst (g : Nat) (d : D) : wp (ev cf (.cst g d)) δ Q X = Q (.fz d) δ := by simp only [ev]; rfl
@[simp] theorem x_int (i : Int) : wp (ev cf (.int i)) δ Q X = Q (.fz (.int i)) δ := by simp only [ev]; rfl
@[simp] theorem x_str (i : Str) : wp (ev cf (.str i)) δ Q X = Q (.fz (.str i)) δ := by simp only [ev]; rfl
@[simp] theorem x_bl (i : Bool) : wp (ev cf (.bl i)) δ Q X = Q (.fz (.bl i)) δ := by simp only [ev]; rfl
@[simp] theorem x_non : wp (ev cf .non) δ Q X = Q (.fz .non) δ := by simp only [ev]; rfl
@[simp] theorem x_dct : wp (ev cf .dct) δ Q X = Q (.fz .dct) δ := by simp only [ev]; rfl
@[simp] theorem x_bin (op : BOp) (a b : Ex) : wp (ev cf (.bin op a b)) δ Q X = wp (ev cf a) δ (fun ra δ => wp (ev cf b) δ (fun rb δ => oq (rd δ ra) δ fun da δ => oq (rd δ rb) δ fun db δ => oq (op.run da db) δ fun o δ => Q o.rs δ) X) X := by
  simp only [ev, wp_bind, wp_rdM, wp_retO]
@[simp] theorem x_neg (a : Ex) : wp (ev cf (.neg a)) δ Q X = wp (ev cf a) δ (fun ra δ => oq (rd δ ra) δ fun da δ => iq da δ fun i δ => Q (.fz (.int (-i))) δ) X := by
  simp only [ev, wp_bind, wp_rdM]
  congr; funext ra e; congr; funext da e'
  cases da <;> rfl
@[simp] theorem x_not (a : Ex) : wp (ev cf (.not a)) δ Q X = wp (ev cf a) δ (fun ra δ => tq ra δ fun b δ => Q (.fz (.bl (!b))) δ) X := by
  simp only [ev, wp_bind, wp_truM, wp_pure]
@[simp] theorem x_cmp (op : COp) (a b : Ex) : wp (ev cf (.cmp op a b)) δ Q X = wp (ev cf a) δ (fun ra δ => wp (ev cf b) δ (fun rb δ => oq (rd δ ra) δ fun da δ => oq (rd δ rb) δ fun db δ => oq (op.run da db) δ fun o δ => Q (.fz (.bl o)) δ) X) X := by
  simp only [ev, wp_bind, wp_rdM, wp_ofO, wp_pure]
@[simp] theorem x_chain (o1 o2 : COp) (a b c : Ex) : wp (ev cf (.chain o1 o2 a b c)) δ Q X = wp (ev cf a) δ (fun ra δ => wp (ev cf b) δ (fun rb δ => oq (rd δ ra) δ fun da δ => oq (rd δ rb) δ fun db δ => oq (o1.run da db) δ fun r δ => if r = true then wp (ev cf c) δ (fun rc δ => oq (rd δ rb) δ fun db δ => oq (rd δ rc) δ fun dc δ => oq (o2.run db dc) δ fun r δ => Q (.fz (.bl r)) δ) X else Q (.fz (.bl false)) δ) X) X := by
  simp only [ev, wp_bind, wp_rdM, wp_ofO, wp_ite, wp_pure]
@[simp] theorem x_bop1 (k : Bool) (a : Ex) : wp (ev cf (.bop k (.cons a .nil))) δ Q X = wp (ev cf a) δ Q X := by
  simp only [ev, evB]
@[simp] theorem x_bop2 (k : Bool) (a b : Ex) (es : Exs) : wp (ev cf (.bop k (.cons a (.cons b es)))) δ Q X = wp (ev cf a) δ (fun r δ => tq r δ fun t δ => if t = k then wp (ev cf (.bop k (.cons b es))) δ Q X else eq_ r δ fun d δ => Q (.fz d) δ) X := by
  simp only [ev]
  rw [evB]
  · simp only [wp_bind, wp_truM, wp_ite, wp_esc, wp_pure, beq_iff_eq]
  · intro h; cases h
@[simp] theorem x_ite (c a b : Ex) : wp (ev cf (.ite c a b)) δ Q X = wp (ev cf c) δ (fun r δ => tq r δ fun t δ => if t = true then wp (ev cf a) δ Q X else wp (ev cf b) δ Q X) X := by
  simp only [ev, wp_bind, wp_truM, wp_ite]
@[simp] theorem x_lst (es : Exs) : wp (ev cf (.lst es)) δ Q X = wp (evD cf es) δ (fun ds δ => Q (.nw ds) δ) X := by
  simp only [ev, wp_bind, wp_pure]
@[simp] theorem x_tup (es : Exs) : wp (ev cf (.tup es)) δ Q X = wp (evD cf es) δ (fun ds δ => Q (.fz (.tup ds)) δ) X := by
  simp only [ev, wp_bind, wp_pure]
@[simp] theorem x_idx (a i : Ex) : wp (ev cf (.idx a i)) δ Q X = wp (ev cf a) δ (fun ra δ => wp (ev cf i) δ (fun rb δ => oq (rd δ ra) δ fun da δ => oq (rd δ rb) δ fun db δ => oq (getIx da db) δ fun d δ => Q (.fz d) δ) X) X := by
  simp only [ev, wp_bind, wp_rdM, wp_ofO, wp_pure]
@[simp] theorem x_slc (a : Ex) (lo hi : OEx) : wp (ev cf (.slc a lo hi)) δ Q X = wp (ev cf a) δ (fun ra δ => wp (evO cf lo) δ (fun lo δ => wp (evO cf hi) δ (fun hi δ => oq (rd δ ra) δ fun da δ => oq (slice da lo hi) δ fun o δ => Q o.rs δ) X) X) X := by
  simp only [ev, wp_bind, wp_rdM, wp_retO, wp_pure]
@[simp] theorem x_rev (a : Ex) : wp (ev cf (.rev a)) δ Q X = wp (ev cf a) δ (fun ra δ => oq (rd δ ra) δ fun da δ => lq da δ fun xs δ => Q (.nw xs.reverse) δ) X := by
  simp only [ev, wp_bind, wp_rdM]
  congr; funext ra e; congr; funext da e'
  cases da <;> rfl
/-- a turn of a comprehension -/
def cbody (cf : CF) (tg : Tg) (cs : Exs) (e : Ex) (x : D) : M (Option D) := noExn (do
      tg.put x
      let b ← evC cf cs
      let o ← (if b then do
        let re ← ev cf e
        let d ← esc re
        pure (some d)
      else pure none)
      tg.clear
      pure o)
@[simp] theorem x_comp (tg : Tg) (it : It) (cs : Exs) (e : Ex) : wp (ev cf (.comp tg it cs e)) δ Q X = wp (evI cf it) δ (fun p δ => wok p.2 (setAll δ tg.slots (tg.slots.map fun _ => .un)) ∧ wp (compL p.2 (cbody cf tg cs e) p.1) (setAll δ tg.slots (tg.slots.map fun _ => .un)) (fun r δ' => r.length ≤ lim ∧ Q (.nw r) (setAll δ' tg.slots (tg.slots.map fun i => shOnly δ[i]?))) X) X := by
  simp only [ev, wp_bind]
  congr; funext p e'
  show wp (watch p.2) _ _ X = _
  rw [wp_watch]
  congr
  funext r e2
  show wp (if r.length ≤ lim then (pure (Rs.nw r) : M Rs) else fail 28) (setAll e2 tg.slots _) Q X = _
  rw [wp_ite]
  by_cases h : r.length ≤ lim
  · simp only [h, if_true, true_and]; rfl
  · simp only [h, if_false, false_and]; rfl
@[simp] theorem x_call (f : Nat) (kw : List Nat) (args : Exs) : wp (ev cf (.call f kw args)) δ Q X = wp (evA cf args) δ (fun as δ => oq (order kw as) δ fun as δ => oneIo as = true ∧ oq (argsSV δ as) δ fun vs δ => fq (cf f vs) as δ Q X) X := by
  simp only [ev, wp_bind, wp_ofO, wp_callF]
@[simp] theorem x_bi (b : Bi) (args : Exs) : wp (ev cf (.bi b args)) δ Q X = wp (evR cf args) δ (fun ds δ => oq (b.run ds) δ fun o δ => Q o.rs δ) X := by
  simp only [ev, wp_bind, wp_retO]
@[simp] theorem x_mt (m : Mt) (o : Ex) (args : Exs) : wp (ev cf (.mt m o args)) δ Q X = wp (ev cf o) δ (fun ro δ => oq (rd δ ro) δ fun d0 δ => if m.recv d0 = true then wp (evR cf args) δ (fun ds δ => oq (rd δ ro) δ fun d δ => oq (m.run d ds) δ fun o δ => Q o.rs δ) X else False) X := by
  simp only [ev, wp_bind, wp_rdM, wp_ite, wp_retO, wp_fail]
@[simp] theorem x_isi (ts : List Ty) (e : Ex) : wp (ev cf (.isi ts e)) δ Q X = wp (ev cf e) δ (fun r δ => oq (rd δ r) δ fun d δ => if d.isRng = true then False else Q (.fz (.bl (ts.any fun t => t.has d))) δ) X := by
  simp only [ev, wp_bind, wp_rdM, wp_ite, wp_fail, wp_pure]
@[simp] theorem x_lof (it : It) : wp (ev cf (.lof it)) δ Q X = wp (evI cf it) δ (fun p δ => if p.1.length ≤ lim then Q (.nw p.1) δ else False) X := by
  simp only [ev, wp_bind]
  congr; funext p e
  show wp (if p.1.length ≤ lim then _ else _) _ _ _ = _
  rw [wp_ite]; rfl
@[simp] theorem x_lcp (a : Ex) : wp (ev cf (.lcp a)) δ Q X = wp (ev cf a) δ (fun r δ => oq (rd δ r) δ fun d δ => ltq d δ fun xs δ => Q (.nw xs) δ) X := by
  simp only [ev, wp_bind, wp_rdM]
  congr; funext ra e; congr; funext da e'
  cases da <;> rfl
/-- a value let go -/
def gq (r : Rs) (δ : Envr) (P : D → Envr → Prop) : Prop := match r with
  | .fz d => d.scal = true ∧ P d δ
  | _ => False
omit [Lit δ] in
@[simp] theorem gq_fz (d : D) (P : D → Envr → Prop) : gq (.fz d) δ P = (d.scal = true ∧ P d δ) := (rfl)
@[simp] theorem scal_bl (b : Bool) : D.scal (.bl b) = true := (rfl)
@[simp] theorem scal_non : D.scal .non = true := (rfl)
@[simp] theorem scal_int (i : Int) : D.scal (.int i) = true := (rfl)
@[simp] theorem scal_str (x : Str) : D.scal (.str x) = true := (rfl)
@[simp] theorem tmpS_un : tmpS .un = .un := (rfl)
@[simp] theorem tmpS_sh (d : D) : tmpS (.sh d) = .sh d := (rfl)
@[simp] theorem tmpS_ow (ds : List D) : tmpS (.ow ds) = .sh (.lst .nu ds) := (rfl)
@[simp] theorem lamS_un : lamS .un = .un := (rfl)
@[simp] theorem lamS_sh (d : D) : lamS (.sh d) = .sh d.age := (rfl)
@[simp] theorem lamS_ow (ds : List D) : lamS (.ow ds) = .sh (.lst .ol (D.ages ds)) := (rfl)
omit [Lit δ] in
theorem wp_letGo (m : M Rs) : wp (letGo m) δ Q X = wp m (δ.map tmpS) (fun r δ' => gq r δ' fun d _ => Q (.fz d) δ) X := by
  have e : letGo m δ = (match m (δ.map tmpS) with
    | .ok (.fz d) _ => if d.scal then .ok (.fz d) δ else .bad 50
    | .ok _ _ => .bad 51
    | .exn c d δ' => .exn c d δ'
    | .bad n => .bad n) := rfl
  unfold wp
  rw [e]
  cases m (δ.map tmpS) with
  | bad n => rfl
  | exn c d e => rfl
  | ok r e =>
    cases r with
    | fz d => by_cases c : d.scal = true <;> simp [c]
    | nw ds => rfl
    | sl i => rfl
@[simp] theorem x_tmp (x : Ex) : wp (ev cf (.tmp x)) δ Q X = wp (ev cf x) (δ.map tmpS) (fun r δ' => gq r δ' fun d _ => Q (.fz d) δ) X := by
  rw [ev, wp_letGo]
@[simp] theorem x_apf (a e : Ex) : wp (ev cf (.apf a e)) δ Q X = wp (ev cf a) δ (fun ra δ => match ra with | .nw ds => wp (ev cf e) δ (fun r δ => eq_ r δ fun _ δ => ds.length < lim ∧ Q (.fz .non) δ) X | _ => False) X := by
  simp only [ev, wp_bind]
  congr
  funext ra e'
  cases ra with
  | nw ds =>
    simp only [wp_bind, wp_esc, wp_ite, wp_pure, wp_fail]
    congr
    funext r e2
    congr
    funext d e3
    by_cases h : ds.length < lim <;> simp [h]
  | _ => rfl
omit [Lit δ] in
theorem wp_caught (ws : List Str) (m : M Rs) (P : Str × D → Envr → Prop) : wp (caughtM ws m) δ P X = wp m (δ.map lamS) (fun _ _ => P ("let", .non) δ) (fun c d δ' => oq ws[c]? δ' fun w _ => P (w, d) δ) := by
  have e : caughtM ws m δ = (match m (δ.map lamS) with
    | .ok _ _ => .ok ("let", .non) δ
    | .exn c d _ => (match ws[c]? with
      | some w => .ok (w, d) δ
      | none => .bad 52)
    | .bad n => .bad n) := rfl
  unfold wp
  rw [e]
  cases h : m (δ.map lamS) with
  | bad n => rfl
  | ok r e => rfl
  | exn c d e => cases h2 : ws[c]? <;> simp [h2]
@[simp] theorem x_rfd (call word val : Ex) (al : Nat) (ws : List Str) : wp (ev cf (.rfd call word val al ws)) δ Q X = wp (ev cf word) δ (fun rw δ => eq_ rw δ fun dw δ => wp (ev cf val) δ (fun rv δ => eq_ rv δ fun dv δ => wp (ev cf call) (δ.map lamS)
    (fun _ _ => oq (refV cf al "let" .non dw dv) δ fun b δ => Q (.fz (.bl b)) δ) (fun c d δ' => oq ws[c]? δ' fun w _ => oq (refV cf al w d dw dv) δ fun b δ => Q (.fz (.bl b)) δ)) X) X := by
  simp only [ev, wp_bind, wp_esc, wp_caught, wp_ofO, wp_pure]
/-- each of them is refused as asked, then Q -/
def rfaq (cf : CF) (al : Nat) (ws : List Str) (dw dv : D) (δ : Envr) (Q : Prop) : Exs → Prop
  | .nil => Q
  | .cons c r => wp (ev cf c) (δ.map lamS) (fun _ _ => refV cf al "let" .non dw dv = some true ∧ rfaq cf al ws dw dv δ Q r) (fun c d δ' => oq ws[c]? δ' fun w _ => refV cf al w d dw dv = some true ∧ rfaq cf al ws dw dv δ Q r)
@[simp] theorem rfaq_nil (cf : CF) (al : Nat) (ws : List Str) (dw dv : D) (δ : Envr) (Q : Prop) : rfaq cf al ws dw dv δ Q .nil = Q := (rfl)
@[simp] theorem rfaq_cons (cf : CF) (al : Nat) (ws : List Str) (dw dv : D) (δ : Envr) (Q : Prop) (c : Ex) (r : Exs) : rfaq cf al ws dw dv δ Q (.cons c r) = wp (ev cf c) (δ.map lamS) (fun _ _ => refV cf al "let" .non dw dv = some true ∧ rfaq cf al ws dw dv δ Q r) (fun c d δ' => oq ws[c]? δ' fun w _ => refV cf al w d dw dv = some true ∧ rfaq cf al ws dw dv δ Q r) := (rfl)
omit [Lit δ] in
theorem wp_evF {Q : Unit → Envr → Prop} {X : EX} (al : Nat) (ws : List Str) (dw dv : D) : ∀ calls : Exs, wp (evF cf al ws dw dv calls) δ Q X = rfaq cf al ws dw dv δ (Q () δ) calls
  | .nil => by rw [evF]; rfl
  | .cons c r => by
    rw [evF, wp_bind, wp_caught, rfaq_cons]
    have key : ∀ (t : Str) (d : D), wp (ofO 54 (refV cf al t d dw dv) >>= fun b => if b = true then evF cf al ws dw dv r else fail 55) δ Q X = (refV cf al t d dw dv = some true ∧ rfaq cf al ws dw dv δ (Q () δ) r) := fun t d => by
      rw [wp_bind, wp_ofO, ← wp_evF (X := X) al ws dw dv r]
      cases refV cf al t d dw dv with
      | none => simp [oq]
      | some b =>
        cases b with
        | true => simp [oq]
        | false =>
          simp [oq]
          exact fun z => z
    exact congr (congrArg _ (funext fun _ => funext fun _ => key _ _)) (funext fun c => funext fun d => funext fun δ' => congrArg _ (funext fun w => funext fun _ => key _ _))
@[simp] theorem x_rfa (calls : Exs) (word val : Ex) (al : Nat) (ws : List Str) : wp (ev cf (.rfa calls word val al ws)) δ Q X = wp (ev cf word) δ (fun rw δ => eq_ rw δ fun dw δ => wp (ev cf val) δ (fun rv δ => eq_ rv δ fun dv δ => rfaq cf al ws dw dv δ (Q (.fz (.bl true)) δ) calls) X) X := by
  simp only [ev, wp_bind, wp_esc, wp_evF, wp_pure]
/-- an item taken out -/
def popq (k : D) (o : Option SV) (i : Nat) (δ : Envr) (Q : Rs → Envr → Prop) : Prop := match k, o with
  | .int k, some (.ow ds) => ds.length ≤ lim ∧ oq (L2.ixN ds.length k) δ fun j δ => oq ds[j]? δ fun d δ => Q (.fz d) (δ.set i (.ow (ds.eraseIdx j)))
  | _, _ => False
@[simp] theorem popq_ow (k : Int) (ds : List D) (i : Nat) : popq (.int k) (some (.ow ds)) i δ Q = (ds.length ≤ lim ∧ oq (L2.ixN ds.length k) δ fun j δ => oq ds[j]? δ fun d δ => Q (.fz d) (δ.set i (.ow (ds.eraseIdx j)))) := (rfl)
@[simp] theorem x_pop (i : Nat) (e : Ex) : wp (ev cf (.pop i e)) δ Q X = sq δ[i]? δ (fun _ _ => False) (fun _ δ => wp (ev cf e) δ (fun r δ => oq (rd δ r) δ fun k δ => popq k δ[i]? i δ Q) X) := by
  simp only [ev, wp_bind, wp_needOw, wp_rdM]
  congr; funext _ e; congr; funext r e; congr; funext k e
  cases k with
  | int k =>
    cases h : e[i]? with
    | none => simp [wp, popq, h]
    | some v =>
      cases v with
      | un => simp [wp, popq, h]
      | sh d => simp [wp, popq, h]
      | ow ds =>
        simp only [wp, popq, h]
        by_cases hl : ds.length ≤ lim
        · rw [if_pos hl]
          cases h2 : L2.ixN ds.length k with
          | none => simp [h2]
          | some j =>
            cases h3 : ds[j]? with
            | none => simp [h2, h3]
            | some d => simp [h2, h3, hl]
        · rw [if_neg hl]; simp [hl]
  | _ => rfl
end
section
variable {cf : CF} {δ : Envr} {X : EX} [Lit δ]
@[simp] theorem x_D0 (Q : List D → Envr → Prop) : wp (evD cf .nil) δ Q X = Q [] δ := by simp only [evD]; rfl
@[simp] theorem x_D (e : Ex) (es : Exs) (Q : List D → Envr → Prop) : wp (evD cf (.cons e es)) δ Q X = wp (ev cf e) δ (fun r δ => eq_ r δ fun d δ => wp (evD cf es) δ (fun ds δ => Q (d :: ds) δ) X) X := by
  simp only [evD, wp_bind, wp_esc, wp_pure]
@[simp] theorem x_R0 (Q : List D → Envr → Prop) : wp (evR cf .nil) δ Q X = Q [] δ := by simp only [evR]; rfl
@[simp] theorem x_R (e : Ex) (es : Exs) (Q : List D → Envr → Prop) : wp (evR cf (.cons e es)) δ Q X = wp (ev cf e) δ (fun r δ => wp (evR cf es) δ (fun ds δ => oq (rd δ r) δ fun d δ => Q (d :: ds) δ) X) X := by
  simp only [evR, wp_bind, wp_rdM, wp_pure]
@[simp] theorem x_A0 (Q : List Arg → Envr → Prop) : wp (evA cf .nil) δ Q X = Q [] δ := by simp only [evA]; rfl
@[simp] theorem x_Aio (i : Nat) (es : Exs) (Q : List Arg → Envr → Prop) : wp (evA cf (.cons (.ioa i) es)) δ Q X = sq δ[i]? δ (fun _ _ => False) (fun _ δ => wp (evA cf es) δ (fun as δ => Q (.s i :: as) δ) X) := by
  simp only [evA, wp_bind, wp_needOw, wp_pure]
def notIo : Ex → Bool
  | .ioa _ => false
  | _ => true
@[simp] theorem notIo_var (i : Nat) : notIo (.var i) = true := (rfl)
@[simp] theorem notIo_cst (g : Nat) (d : D) : notIo (.cst g d) = true := (rfl)
@[simp] theorem notIo_int (i : Int) : notIo (.int i) = true := (rfl)
@[simp] theorem notIo_str (x : Str) : notIo (.str x) = true := (rfl)
@[simp] theorem notIo_bl (b : Bool) : notIo (.bl b) = true := (rfl)
@[simp] theorem notIo_non  : notIo (.non ) = true := (rfl)
@[simp] theorem notIo_dct  : notIo (.dct ) = true := (rfl)
@[simp] theorem notIo_tmp (e : Ex) : notIo (.tmp e) = true := (rfl)
@[simp] theorem notIo_apf (a e : Ex) : notIo (.apf a e) = true := (rfl)
@[simp] theorem notIo_rfa (es : Exs) (e f : Ex) (al : Nat) (ws : List Str) : notIo (.rfa es e f al ws) = true := (rfl)
@[simp] theorem notIo_rfd (a e f : Ex) (al : Nat) (ws : List Str) : notIo (.rfd a e f al ws) = true := (rfl)
@[simp] theorem notIo_bin (op : BOp) (a b : Ex) : notIo (.bin op a b) = true := (rfl)
@[simp] theorem notIo_neg (a : Ex) : notIo (.neg a) = true := (rfl)
@[simp] theorem notIo_not (a : Ex) : notIo (.not a) = true := (rfl)
@[simp] theorem notIo_cmp (op : COp) (a b : Ex) : notIo (.cmp op a b) = true := (rfl)
@[simp] theorem notIo_chain (o1 o2 : COp) (a b c : Ex) : notIo (.chain o1 o2 a b c) = true := (rfl)
@[simp] theorem notIo_bop (k : Bool) (es : Exs) : notIo (.bop k es) = true := (rfl)
@[simp] theorem notIo_ite (c a b : Ex) : notIo (.ite c a b) = true := (rfl)
@[simp] theorem notIo_lst (es : Exs) : notIo (.lst es) = true := (rfl)
@[simp] theorem notIo_tup (es : Exs) : notIo (.tup es) = true := (rfl)
@[simp] theorem notIo_idx (a i : Ex) : notIo (.idx a i) = true := (rfl)
@[simp] theorem notIo_slc (a : Ex) (lo hi : OEx) : notIo (.slc a lo hi) = true := (rfl)
@[simp] theorem notIo_rev (a : Ex) : notIo (.rev a) = true := (rfl)
@[simp] theorem notIo_comp (tg : Tg) (it : It) (cs : Exs) (e : Ex) : notIo (.comp tg it cs e) = true := (rfl)
@[simp] theorem notIo_call (f : Nat) (kw : List Nat) (args : Exs) : notIo (.call f kw args) = true := (rfl)
@[simp] theorem notIo_bi (b : Bi) (args : Exs) : notIo (.bi b args) = true := (rfl)
@[simp] theorem notIo_mt (m : Mt) (o : Ex) (args : Exs) : notIo (.mt m o args) = true := (rfl)
@[simp] theorem notIo_isi (ts : List Ty) (e : Ex) : notIo (.isi ts e) = true := (rfl)
@[simp] theorem notIo_lof (it : It) : notIo (.lof it) = true := (rfl)
@[simp] theorem notIo_lcp (a : Ex) : notIo (.lcp a) = true := (rfl)
@[simp] theorem notIo_pop (i : Nat) (e : Ex) : notIo (.pop i e) = true := (rfl)
theorem x_A0' (e : Ex) (h : notIo e = true) (es : Exs) (Q : List Arg → Envr → Prop) : wp (evA cf (.cons e es)) δ Q X = wp (ev cf e) δ (fun r δ => eq_ r δ fun d δ => wp (evA cf es) δ (fun as δ => Q (.v d :: as) δ) X) X := by
  rw [evA]
  · simp only [wp_bind, wp_esc, wp_pure]
  · intro i hi; subst hi; cases h
@[simp] theorem x_A (e : Ex) (es : Exs) (Q : List Arg → Envr → Prop) (h : notIo e = true) : wp (evA cf (.cons e es)) δ Q X = wp (ev cf e) δ (fun r δ => eq_ r δ fun d δ => wp (evA cf es) δ (fun as δ => Q (.v d :: as) δ) X) X := x_A0' e h es Q
@[simp] theorem x_C0 (Q : Bool → Envr → Prop) : wp (evC cf .nil) δ Q X = Q true δ := by simp only [evC]; rfl
@[simp] theorem x_C (e : Ex) (es : Exs) (Q : Bool → Envr → Prop) : wp (evC cf (.cons e es)) δ Q X = wp (ev cf e) δ (fun r δ => tq r δ fun t δ => if t = true then wp (evC cf es) δ Q X else Q false δ) X := by
  simp only [evC, wp_bind, wp_truM, wp_ite, wp_pure]
@[simp] theorem x_O0 (Q : Option Int → Envr → Prop) : wp (evO cf .no) δ Q X = Q none δ := by simp only [evO]; rfl
@[simp] theorem x_O (e : Ex) (Q : Option Int → Envr → Prop) : wp (evO cf (.so e)) δ Q X = wp (ev cf e) δ (fun r δ => oq (rd δ r) δ fun d δ => iq d δ fun i δ => Q (some i) δ) X := by
  simp only [evO, wp_bind, wp_rdM]
  congr; funext ra e; congr; funext da e'
  cases da <;> rfl
variable {Q : List D × Option (Nat × List D) → Envr → Prop}
@[simp] theorem x_rng1 (a : Ex) : wp (evI cf (.rng1 a)) δ Q X = wp (ev cf a) δ (fun r δ => oq (rd δ r) δ fun d δ => iq d δ fun i δ => if small i = true then Q (ranged 0 i, none) δ else False) X := by
  simp only [evI, wp_bind, wp_rdM]
  congr; funext ra e; congr; funext da e'
  cases da <;> try rfl
  show wp (if small _ = true then _ else _) _ _ _ = _
  rw [wp_ite]; rfl
@[simp] theorem x_rng2 (a b : Ex) : wp (evI cf (.rng2 a b)) δ Q X = wp (ev cf a) δ (fun ra δ => wp (ev cf b) δ (fun rb δ => oq (rd δ ra) δ fun da δ => oq (rd δ rb) δ fun db δ => iq da δ fun i δ => iq db δ fun j δ => if (small i && small j) = true then Q (ranged i j, none) δ else False) X) X := by
  simp only [evI, wp_bind, wp_rdM]
  congr; funext ra e; congr; funext rb e; congr; funext da e; congr; funext db e
  cases da <;> try rfl
  cases db <;> try rfl
  show wp (if (small _ && small _) = true then _ else _) _ _ _ = _
  rw [wp_ite]; rfl
@[simp] theorem x_seq (a : Ex) : wp (evI cf (.seq a)) δ Q X = wp (ev cf a) δ (fun r δ => oq (rd δ r) δ fun d δ => oq d.items δ fun xs δ => Q (xs, ownW δ r) δ) X := by
  simp only [evI, wp_bind, wp_seqW]
@[simp] theorem x_enum (a : Ex) : wp (evI cf (.enum a)) δ Q X = wp (ev cf a) δ (fun r δ => oq (rd δ r) δ fun d δ => lq d δ fun xs δ => Q (enumd 0 xs, ownW δ r) δ) X := by
  simp only [evI, wp_bind, wp_lstW, wp_pure]
@[simp] theorem x_zip (a b : Ex) : wp (evI cf (.zip a b)) δ Q X = wp (ev cf a) δ (fun ra δ => wp (ev cf b) δ (fun rb δ => eq_ ra δ fun da δ => eq_ rb δ fun db δ => lq da δ fun xs δ => lq db δ fun ys δ => Q (zipd xs ys, none) δ) X) X := by
  simp only [evI, wp_bind, wp_esc]
  congr; funext ra e; congr; funext rb e; congr; funext da e; congr; funext db e
  cases da <;> try rfl
  cases db <;> rfl
@[simp] theorem x_cbody (tg : Tg) (cs : Exs) (e : Ex) (x : D) (Q : Option D → Envr → Prop) : wp (cbody cf tg cs e x) δ Q X = wp (tg.put x) δ (fun _ δ => wp (evC cf cs) δ (fun b δ => if b = true then wp (ev cf e) δ (fun r δ => eq_ r δ fun d δ => Q (some d) (setAll δ tg.slots (tg.slots.map fun _ => .un))) NX else Q none (setAll δ tg.slots (tg.slots.map fun _ => .un))) NX) NX := by
  unfold cbody
  rw [wp_noExn]
  simp only [wp_bind]
  congr; funext u e1; congr; funext b e2
  show wp (if b = true then _ else _) _ _ _ = _
  rw [wp_ite]
  simp only [wp_bind, wp_esc, wp_pure]
  rfl
end
section
variable {δ : Envr} {X : EX} [Lit δ]
@[simp] theorem x_put_nm (i : Nat) (d : D) (Q : Unit → Envr → Prop) : wp (Tg.put (.nm i) d) δ Q X = Q () (δ.set i (.sh d)) := (rfl)
@[simp] theorem x_put_tp (is : List Nat) (d : D) (Q : Unit → Envr → Prop) : wp (Tg.put (.tp is) d) δ Q X = ltq d δ fun ds δ => ds.length = is.length ∧ Q () (setAll δ is (ds.map .sh)) := by
  unfold wp Tg.put
  cases d <;> simp [ltq]
  · rename_i f ds; by_cases h : ds.length = is.length <;> simp [h]
  · rename_i ds; by_cases h : ds.length = is.length <;> simp [h]
@[simp] theorem slots_nm (i : Nat) : (Tg.nm i).slots = [i] := (rfl)
@[simp] theorem slots_tp (is : List Nat) : (Tg.tp is).slots = is := (rfl)
@[simp] theorem setAll_nil (δ : Envr) (vs : List SV) : setAll δ [] vs = δ := by cases vs <;> rfl
@[simp] theorem setAll_cons (i : Nat) (is : List Nat) (v : SV) (vs : List SV) : setAll δ (i :: is) (v :: vs) = setAll (δ.set i v) is vs := (rfl)
@[simp] theorem shOnly_un : shOnly (some .un) = .un := (rfl)
@[simp] theorem shOnly_sh (d : D) : shOnly (some (.sh d)) = .sh d := (rfl)
@[simp] theorem shOnly_ow (d : List D) : shOnly (some (.ow d)) = .un := (rfl)
@[simp] theorem putBack_nil (vs : List SV) : putBack [] vs δ = δ := (rfl)
@[simp] theorem putBack_s (i : Nat) (r : List Arg) (v : SV) (vs : List SV) : putBack (.s i :: r) (v :: vs) δ = putBack r vs (δ.set i v) := (rfl)
@[simp] theorem putBack_v (d : D) (r : List Arg) (v : SV) (vs : List SV) : putBack (.v d :: r) (v :: vs) δ = putBack r vs δ := (rfl)
@[simp] theorem argsSV_nil : argsSV δ [] = some [] := (rfl)
def ccons (o : Option SV) (r : Option (List SV)) : Option (List SV) := match o, r with
  | some v, some vs => some (v :: vs)
  | _, _ => none
@[simp] theorem ccons_some (v : SV) (vs : List SV) : ccons (some v) (some vs) = some (v :: vs) := (rfl)
@[simp] theorem argsSV_cons (a : Arg) (r : List Arg) : argsSV δ (a :: r) = ccons (argSV δ a) (argsSV δ r) := (rfl)
@[simp] theorem argSV_v (d : D) : argSV δ (.v d) = some (.sh d.age) := (rfl)
def ageO (o : Option SV) : Option SV := match o with
  | some (.ow ds) => some (.ow (D.ages ds))
  | _ => none
@[simp] theorem ageO_ow (ds : List D) : ageO (some (.ow ds)) = some (.ow (D.ages ds)) := (rfl)
@[simp] theorem argSV_s (i : Nat) : argSV δ (.s i) = ageO δ[i]? := by
  unfold argSV ageO
  cases h : δ[i]? with
  | none => simp [h]
  | some v => cases v <;> simp [h]
@[simp] theorem order_nil (as : List Arg) : order [] as = some as := (rfl)
end
/-! ### statements -/
section
variable {cf : CF} {δ β : Envr} {X : EX} [Lit δ] {Q : Out → Envr → Prop}
/-- how a block goes on -/
def nxq (o : Out) (δ : Envr) (m : M Out) (Q : Out → Envr → Prop) (X : EX) : Prop := match o with
  | .nx => wp m δ Q X
  | o => Q o δ
@[simp] theorem nxq_nx (m : M Out) : nxq .nx δ m Q X = wp m δ Q X := (rfl)
@[simp] theorem nxq_bk (m : M Out) : nxq .bk δ m Q X = Q .bk δ := (rfl)
@[simp] theorem nxq_ret (r : Rs) (m : M Out) : nxq (.ret r) δ m Q X = Q (.ret r) δ := (rfl)
@[simp] theorem s_nil : wp (execs cf β .nil) δ Q X = Q .nx δ := by simp only [execs]; rfl
@[simp] theorem s_cons (s : St) (r : Sts) : wp (execs cf β (.cons s r)) δ Q X = wp (exec cf β s) δ (fun o δ => nxq o δ (execs cf β r) Q X) X := by
  simp only [execs, wp_bind]
  congr; funext o e
  cases o <;> rfl
@[simp] theorem s_ex (e : Ex) : wp (exec cf β (.ex e)) δ Q X = wp (ev cf e) δ (fun _ δ => Q .nx δ) X := by
  simp only [exec, wp_bind, wp_pure]
/-- a value stored -/
def ptq (own : Bool) (i : Nat) (r : Rs) (δ : Envr) (P : Envr → Prop) : Prop := match own, r with
  | true, .nw ds => P (δ.set i (.ow ds))
  | _, r => eq_ r δ fun d δ => P (δ.set i (.sh d))
theorem wp_putR (own : Bool) (i : Nat) (r : Rs) (Q : Unit → Envr → Prop) {δ : Envr} : wp (putR own i r) δ Q X = ptq own i r δ fun δ => Q () δ := by
  cases own with
  | false =>
    unfold putR ptq
    show wp (do let d ← esc r; _) δ Q X = _
    simp only [wp_bind, wp_esc]
    rfl
  | true =>
    cases r with
    | nw ds => rfl
    | fz d => rfl
    | sl j =>
      unfold putR ptq
      show wp (do let d ← esc _; _) δ Q X = _
      simp only [wp_bind, wp_esc]
      rfl
@[simp] theorem ptq_own (i : Nat) (ds : List D) (P : Envr → Prop) : ptq true i (.nw ds) δ P = P (δ.set i (.ow ds)) := (rfl)
@[simp] theorem ptq_ofz (i : Nat) (d : D) (P : Envr → Prop) : ptq true i (.fz d) δ P = P (δ.set i (.sh d)) := (rfl)
@[simp] theorem ptq_osl (i j : Nat) (P : Envr → Prop) : ptq true i (.sl j) δ P = eq_ (.sl j) δ fun d δ => P (δ.set i (.sh d)) := (rfl)
@[simp] theorem ptq_sh (i : Nat) (r : Rs) (P : Envr → Prop) : ptq false i r δ P = eq_ r δ fun d δ => P (δ.set i (.sh d)) := (rfl)
@[simp] theorem s_asg (own : Bool) (i : Nat) (e : Ex) : wp (exec cf β (.asg own i e)) δ Q X = wp (ev cf e) δ (fun r δ => ptq own i r δ fun δ => Q .nx δ) X := by
  simp only [exec, wp_bind, wp_putR, wp_pure]
@[simp] theorem s_asgT (is : List Nat) (e : Ex) : wp (exec cf β (.asgT is e)) δ Q X = wp (ev cf e) δ (fun r δ => eq_ r δ fun d δ => ltq d δ fun ds δ => ds.length = is.length ∧ Q .nx (setAll δ is (ds.map .sh))) X := by
  simp only [exec, wp_bind, wp_esc, wp_pure]
  congr; funext r e; congr; funext d e
  unfold wp Tg.put
  cases d <;> simp [ltq]
  · rename_i f ds; by_cases h : ds.length = is.length <;> simp [h]
  · rename_i ds; by_cases h : ds.length = is.length <;> simp [h]
/-- values stored at once -/
def ptsq : List Bool → List Nat → List Rs → Envr → (Envr → Prop) → Prop
  | o :: os, i :: is, r :: rs, δ, P => ptq o i r δ fun δ => ptsq os is rs δ P
  | [], [], [], δ, P => P δ
  | _, _, _, _, _ => False
@[simp] theorem ptsq_nil (P : Envr → Prop) : ptsq [] [] [] δ P = P δ := (rfl)
@[simp] theorem ptsq_cons (o : Bool) (os : List Bool) (i : Nat) (is : List Nat) (r : Rs) (rs : List Rs) (P : Envr → Prop) : ptsq (o :: os) (i :: is) (r :: rs) δ P = ptq o i r δ fun δ => ptsq os is rs δ P := (rfl)
theorem wp_putRs : ∀ (os : List Bool) (is : List Nat) (rs : List Rs) (δ : Envr) (Q : Unit → Envr → Prop), wp (putRs os is rs) δ Q X = ptsq os is rs δ fun δ => Q () δ
  | [], [], [], δ, Q => rfl
  | [], [], _ :: _, δ, Q => rfl
  | [], _ :: _, _, δ, Q => rfl
  | _ :: _, [], _, δ, Q => rfl
  | _ :: _, _ :: _, [], δ, Q => rfl
  | o :: os, i :: is, r :: rs, δ, Q => by
    unfold putRs ptsq
    simp only [wp_bind, wp_putR]
    congr; funext e
    exact wp_putRs os is rs e Q
@[simp] theorem x_P0 (Q : List Rs → Envr → Prop) : wp (evP cf .nil) δ Q X = Q [] δ := by simp only [evP]; rfl
/-- kept, but for a new list -/
def pkq (r : Rs) (δ : Envr) (P : Rs → Envr → Prop) : Prop := match r with
  | .nw ds => P (.nw ds) δ
  | r => eq_ r δ fun d δ => P (.fz d) δ
@[simp] theorem pkq_nw (ds : List D) (P : Rs → Envr → Prop) : pkq (.nw ds) δ P = P (.nw ds) δ := (rfl)
@[simp] theorem pkq_fz (d : D) (P : Rs → Envr → Prop) : pkq (.fz d) δ P = P (.fz d) δ := (rfl)
@[simp] theorem pkq_sl (i : Nat) (P : Rs → Envr → Prop) : pkq (.sl i) δ P = eq_ (.sl i) δ fun d δ => P (.fz d) δ := (rfl)
@[simp] theorem x_P (e : Ex) (es : Exs) (Q : List Rs → Envr → Prop) : wp (evP cf (.cons e es)) δ Q X = wp (ev cf e) δ (fun r δ => pkq r δ fun r δ => wp (evP cf es) δ (fun rs δ => Q (r :: rs) δ) X) X := by
  simp only [evP, wp_bind]
  congr; funext r e
  cases r with
  | nw ds => dsimp only; simp only [wp_bind]; rfl
  | fz d => dsimp only; simp only [wp_bind, wp_esc]; rfl
  | sl i => dsimp only; simp only [wp_bind, wp_esc]; rfl
@[simp] theorem s_par (own : List Bool) (is : List Nat) (es : Exs) : wp (exec cf β (.par own is es)) δ Q X = wp (evP cf es) δ (fun rs δ => ptsq own is rs δ fun δ => Q .nx δ) X := by
  simp only [exec, wp_bind, wp_putRs, wp_pure]
def setq (k : D) (o : Option SV) (i : Nat) (d : D) (δ : Envr) (Q : Out → Envr → Prop) : Prop := match k, o with
  | .int k, some (.ow ds) => oq (L2.ixN ds.length k) δ fun j δ => Q .nx (δ.set i (.ow (ds.set j d)))
  | _, _ => False
@[simp] theorem setq_ow (k : Int) (ds : List D) (i : Nat) (d : D) : setq (.int k) (some (.ow ds)) i d δ Q = oq (L2.ixN ds.length k) δ fun j δ => Q .nx (δ.set i (.ow (ds.set j d))) := (rfl)
@[simp] theorem s_setI (i : Nat) (k e : Ex) : wp (exec cf β (.setI i k e)) δ Q X = wp (ev cf e) δ (fun r δ => eq_ r δ fun d δ => sq δ[i]? δ (fun _ _ => False) (fun _ δ => wp (ev cf k) δ (fun r δ => oq (rd δ r) δ fun k δ => setq k δ[i]? i d δ Q) X)) X := by
  simp only [exec, wp_bind, wp_needOw, wp_rdM, wp_esc]
  congr; funext _ e; congr; funext r e; congr; funext k e; congr; funext r2 e; congr; funext k e
  cases k with
  | int k =>
    cases h : e[i]? with
    | none => simp [wp, setq, h]
    | some v =>
      cases v with
      | un => simp [wp, setq, h]
      | sh d => simp [wp, setq, h]
      | ow ds =>
        simp only [wp, setq, h]
        cases h2 : L2.ixN ds.length k with
        | none => simp [h2]
        | some j => simp [h2]
  | _ => rfl
@[simp] theorem s_app (i : Nat) (e : Ex) : wp (exec cf β (.app i e)) δ Q X = sq δ[i]? δ (fun _ _ => False) (fun _ δ => wp (ev cf e) δ (fun r δ => eq_ r δ fun d δ => sq δ[i]? δ (fun _ _ => False) (fun ds δ => ds.length < lim ∧ Q .nx (δ.set i (.ow (ds ++ [d]))))) X) := by
  simp only [exec, wp_bind, wp_needOw, wp_esc]
  congr; funext _ e; congr; funext r e; congr; funext d e
  unfold wp
  cases h : e[i]? with
  | none => simp [sq, h]
  | some v =>
    cases v with
    | un => simp [sq, h]
    | sh d => simp [sq, h]
    | ow ds => by_cases hl : ds.length < lim <;> simp [sq, h, hl]
def remq (ds : List D) (d : D) (i : Nat) (δ : Envr) (Q : Out → Envr → Prop) : Prop := oq (ints? ds) δ fun ns δ => iq d δ fun k δ => k ∈ ns ∧ Q .nx (δ.set i (.ow ((ns.erase k).map .int)))
@[simp] theorem remq_eq (ds : List D) (d : D) (i : Nat) : remq ds d i δ Q = oq (ints? ds) δ fun ns δ => iq d δ fun k δ => k ∈ ns ∧ Q .nx (δ.set i (.ow ((ns.erase k).map .int))) := (rfl)
@[simp] theorem s_rem (i : Nat) (e : Ex) : wp (exec cf β (.rem i e)) δ Q X = sq δ[i]? δ (fun _ _ => False) (fun _ δ => wp (ev cf e) δ (fun r δ => eq_ r δ fun d δ => sq δ[i]? δ (fun _ _ => False) (fun ds δ => remq ds d i δ Q)) X) := by
  simp only [exec, wp_bind, wp_needOw, wp_esc]
  congr; funext _ e; congr; funext r e; congr; funext d e
  unfold wp
  cases h : e[i]? with
  | none => simp [sq, h]
  | some v =>
    cases v with
    | un => simp [sq, h]
    | sh d => simp [sq, h]
    | ow ds =>
      unfold sq remq
      simp only [h]
      cases hn : ints? ds with
      | none => simp [hn]
      | some ns =>
        cases d with
        | int k => by_cases hk : k ∈ ns <;> simp [hn, hk]
        | _ => simp [hn, iq]
@[simp] theorem s_ite (c : Ex) (a b : Sts) : wp (exec cf β (.ite c a b)) δ Q X = wp (ev cf c) δ (fun r δ => tq r δ fun t δ => if t = true then wp (execs cf β a) δ Q X else wp (execs cf β b) δ Q X) X := by
  simp only [exec, wp_bind, wp_truM, wp_ite]
/-- a turn of a for loop -/
def fbody (cf : CF) (β : Envr) (tg : Tg) (b : Sts) (x : D) : M Out := do
      tg.put x
      execs cf β b
@[simp] theorem s_for (tg : Tg) (it : It) (b : Sts) : wp (exec cf β (.for_ tg it b)) δ Q X = wp (evI cf it) δ (fun p δ => wp (forL (fbody cf β tg b) p.1) (kpW p.2 δ) Q X) X := by
  simp only [exec, wp_bind]
  congr; funext p e
  rw [wp_keepW]
  rfl
@[simp] theorem x_fbody (tg : Tg) (b : Sts) (x : D) : wp (fbody cf β tg b x) δ Q X = wp (tg.put x) δ (fun _ δ => wp (execs cf β b) δ Q X) X := by
  unfold fbody
  rw [wp_bind]
/-- a while loop's test -/
def wtest (cf : CF) (c : Ex) : M Bool := do
      let r ← ev cf c
      truM r
@[simp] theorem s_whl (c : Ex) (b : Sts) : wp (exec cf β (.whl c b)) δ Q X = wp (whileL (wtest cf c) (execs cf β b) turns) δ Q X := by
  simp only [exec]; rfl
@[simp] theorem x_wtest (c : Ex) (Q : Bool → Envr → Prop) : wp (wtest cf c) δ Q X = wp (ev cf c) δ (fun r δ => tq r δ Q) X := by
  unfold wtest
  simp only [wp_bind, wp_truM]
@[simp] theorem s_ret (e : Ex) : wp (exec cf β (.ret e)) δ Q X = wp (ev cf e) δ (fun r δ => Q (.ret r) δ) X := by
  simp only [exec, wp_bind, wp_pure]
@[simp] theorem s_rse (c : Nat) (e : Ex) : wp (exec cf β (.rse c e)) δ Q X = wp (ev cf e) δ (fun r δ => eq_ r δ fun d δ => X c d δ) X := by
  simp only [exec, wp_bind, wp_esc]; rfl
@[simp] theorem ageSV_un : ageSV .un = .un := (rfl)
@[simp] theorem ageSV_sh (d : D) : ageSV (.sh d) = .sh d.age := (rfl)
@[simp] theorem ageSV_ow (ds : List D) : ageSV (.ow ds) = .ow (D.ages ds) := (rfl)
@[simp] theorem ss_blk (nas : List Nat) (b r : Sts) : wp (execs cf β (.blk nas b r)) δ Q X = wp (execs cf (δ.map ageSV) b) (δ.map ageSV) (fun o δ => nxq o δ (execs cf β r) Q X) X := by
  rw [execs, wp_bind]
  refine congrArg (fun z => wp (execs cf (δ.map ageSV) b) (δ.map ageSV) z X) (funext fun o => funext fun e => ?_)
  cases o <;> rfl
@[simp] theorem ss_nil0 : wp (execs cf β .nil) δ Q X = Q .nx δ := by rw [execs]; rfl
/-- a list made since the base -/
def scq (r : Rs) (δ : Envr) (P : List D → Envr → Prop) : Prop := match r with
  | .fz (.lst .nu ds) => P ds δ
  | _ => False
omit [Lit δ] in
@[simp] theorem scq_lst (ds : List D) (P : List D → Envr → Prop) : scq (.fz (.lst .nu ds)) δ P = P ds δ := (rfl)
@[simp] theorem s_scr (keep : List Nat) (p e : Ex) : wp (exec cf β (.scr keep p e)) δ Q X = wp (ev cf p) δ (fun r δ => scq r δ fun ds δ => ds.length < lim ∧ wp (ev cf e) δ (fun _ δ => Q .nx (keepS keep β 0 δ)) X) X := by
  rw [exec, wp_bind]
  refine congrArg (fun z => wp (ev cf p) δ z X) (funext fun r => funext fun δ1 => ?_)
  rw [wp_bind, wp_rdM]
  cases r with
  | nw ds => show oq (some _) _ _ = _; rfl
  | sl i =>
    show _ = False
    cases h : rd δ1 (.sl i) with
    | none => rfl
    | some d => cases d <;> first | rfl | (rename_i f _; cases f <;> rfl)
  | fz d =>
    cases d with
    | lst f ds =>
      cases f with
      | nu =>
        show wp (if ds.length < lim then _ else _) δ1 Q X = _
        by_cases h : ds.length < lim
        · rw [if_pos h, wp_bind]
          simp only [scq_lst, h, true_and]
          rfl
        · rw [if_neg h]
          simp only [scq_lst, h, false_and]
          rfl
      | ol => rfl
      | ro => rfl
    | _ => rfl
@[simp] theorem keepS_nil (keep : List Nat) (β : Envr) (i : Nat) : keepS keep β i [] = [] := (rfl)
@[simp] theorem keepS_cons (keep : List Nat) (β : Envr) (i : Nat) (v : SV) (r : Envr) : keepS keep β i (v :: r) = (if i ∈ keep then (match β[i]? with | some (.sh d) => .sh d | _ => scalS v) else scalS v) :: keepS keep β (i + 1) r := (rfl)
@[simp] theorem scalS_un : scalS .un = .un := (rfl)
@[simp] theorem scalS_sh (d : D) : scalS (.sh d) = if d.scal then .sh d else .un := (rfl)
@[simp] theorem scalS_ow (ds : List D) : scalS (.ow ds) = if ds.all D.scal then .ow ds else .un := (rfl)
@[simp] theorem scal_lst (f : Lb) (xs : List D) : D.scal (.lst f xs) = false := (rfl)
@[simp] theorem scal_tup (xs : List D) : D.scal (.tup xs) = false := (rfl)
@[simp] theorem scal_dct : D.scal .dct = false := (rfl)
@[simp] theorem s_brk : wp (exec cf β .brk) δ Q X = Q .bk δ := by simp only [exec]; rfl
@[simp] theorem s_pas : wp (exec cf β .pas) δ Q X = Q .nx δ := by simp only [exec]; rfl
end
def flq (o : Out) (δ : Envr) (m : M Out) (Q : Out → Envr → Prop) (X : EX) : Prop := match o with
  | .nx => wp m δ Q X
  | .bk => Q .nx δ
  | .ret r => Q (.ret r) δ
section
variable {δ : Envr} {X : EX} [Lit δ]
@[simp] theorem flq_nx (m : M Out) (Q : Out → Envr → Prop) : flq .nx δ m Q X = wp m δ Q X := (rfl)
@[simp] theorem flq_bk (m : M Out) (Q : Out → Envr → Prop) : flq .bk δ m Q X = Q .nx δ := (rfl)
@[simp] theorem flq_ret (r : Rs) (m : M Out) (Q : Out → Envr → Prop) : flq (.ret r) δ m Q X = Q (.ret r) δ := (rfl)
@[simp] theorem x_forL0 (f : D → M Out) (Q : Out → Envr → Prop) : wp (forL f []) δ Q X = Q .nx δ := (rfl)
@[simp] theorem x_forL (f : D → M Out) (x : D) (xs : List D) (Q : Out → Envr → Prop) : wp (forL f (x :: xs)) δ Q X = wp (f x) δ (fun o δ => flq o δ (forL f xs) Q X) X := by
  show wp (f x >>= _) δ Q X = _
  rw [wp_bind]
  congr; funext o e
  cases o <;> rfl
@[simp] theorem x_compL0 (w : Option (Nat × List D)) (f : D → M (Option D)) (Q : List D → Envr → Prop) : wp (compL w f []) δ Q X = Q [] δ := (rfl)
@[simp] theorem x_compL (w : Option (Nat × List D)) (f : D → M (Option D)) (x : D) (xs : List D) (Q : List D → Envr → Prop) : wp (compL w f (x :: xs)) δ Q X = wp (f x) δ (fun o δ => wok w δ ∧ wp (compL w f xs) δ (fun r δ => Q (o.toList ++ r) δ) X) X := by
  show wp (f x >>= _) δ Q X = _
  simp only [wp_bind, wp_watch, wp_pure]
  congr; funext o e; congr; funext r e
  cases o <;> rfl
end
/-! ### a def's end -/
section
variable {nas : List Nat} {as : List SV} {δ : Envr}
@[simp] theorem back_nx : back nas as (.ok .nx δ) = .ret (.fz .non) (maskW nas as 0 δ) := (rfl)
@[simp] theorem back_fz (d : D) : back nas as (.ok (.ret (.fz d)) δ) = .ret (.fz d) (maskW nas as 0 δ) := (rfl)
@[simp] theorem back_nw (d : List D) : back nas as (.ok (.ret (.nw d)) δ) = .ret (.nw d) (maskW nas as 0 δ) := (rfl)
@[simp] theorem back_exn (c : Nat) (d : D) : back nas as (.exn c d δ) = .exn c d (maskW nas as 0 δ) := (rfl)
def backS (nas : List Nat) (as : List SV) (i : Nat) (o : Option SV) (δ : Envr) : FR := match o with
  | some (.ow ds) => .ret (.nw ds) (maskW nas as 0 (δ.set i .un))
  | some (.sh d) => .ret (.fz d) (maskW nas as 0 δ)
  | _ => .bad 41
@[simp] theorem backS_ow (i : Nat) (ds : List D) : backS nas as i (some (.ow ds)) δ = .ret (.nw ds) (maskW nas as 0 (δ.set i .un)) := (rfl)
@[simp] theorem backS_sh (i : Nat) (d : D) : backS nas as i (some (.sh d)) δ = .ret (.fz d) (maskW nas as 0 δ) := (rfl)
@[simp] theorem back_sl (i : Nat) : back nas as (.ok (.ret (.sl i)) δ) = backS nas as i δ[i]? δ := by
  unfold back backS
  cases h : δ[i]? with
  | none => simp [h]
  | some v => cases v <;> simp [h]
@[simp] theorem mask_nil (i : Nat) : maskW nas [] i δ = [] := (rfl)
@[simp] theorem mask_sh (d : D) (r : List SV) (i : Nat) : maskW nas (.sh d :: r) i δ = .un :: maskW nas r (i + 1) δ := (rfl)
@[simp] theorem mask_ow (d : List D) (r : List SV) (i : Nat) : maskW nas (.ow d :: r) i δ = (if i ∈ nas then (δ[i]?).getD .un else .un) :: maskW nas r (i + 1) δ := (rfl)
end
end Rv
set_option linter.all false
set_option maxRecDepth 100000
set_option maxHeartbeats 1000000
set_option Elab.async false
/-! Rf, the value layer 2: data. -/
namespace Rv
open Rf
open PySem (Str PyData)
/-! ### operations -/
@[simp] theorem add_int (i j : Int) : BOp.run .add (.int i) (.int j) = some (.val (.int (i + j))) := (rfl)
@[simp] theorem add_lst (f g : Lb) (xs ys : List D) : BOp.run .add (.lst f xs) (.lst g ys) = if tracked f && tracked g && decide (xs.length + ys.length ≤ lim) then some (.new (xs ++ ys)) else none := (rfl)
@[simp] theorem sub_int (i j : Int) : BOp.run .sub (.int i) (.int j) = some (.val (.int (i - j))) := (rfl)
@[simp] theorem mul_int (i j : Int) : BOp.run .mul (.int i) (.int j) = if mulOk i j then some (.val (.int (i * j))) else none := (rfl)
@[simp] theorem mul_lst (f : Lb) (xs : List D) (j : Int) : BOp.run .mul (.lst f xs) (.int j) = if tracked f && decide (xs.length * j.toNat ≤ lim) && decide (-(2 ^ 63) ≤ j) && decide (j < 2 ^ 63) then some (.new (rep xs j.toNat)) else none := (rfl)
@[simp] theorem fdiv_int (i j : Int) : BOp.run .fdiv (.int i) (.int j) = if 0 < j ∧ j.natAbs < big then some (.val (.int (i / j))) else none := (rfl)
@[simp] theorem mod_int (i j : Int) : BOp.run .mod (.int i) (.int j) = if 0 < j then some (.val (.int (i % j))) else none := (rfl)
@[simp] theorem pow_int (i j : Int) : BOp.run .pow (.int i) (.int j) = if 0 ≤ j ∧ i.natAbs < 2 ^ 256 ∧ j ≤ 1000 then some (.val (.int (i ^ j.toNat))) else none := (rfl)
@[simp] theorem tracked_nu : tracked .nu = true := (rfl)
@[simp] theorem tracked_ol : tracked .ol = true := (rfl)
@[simp] theorem tracked_ro : tracked .ro = false := (rfl)
@[simp] theorem lt_int (i j : Int) : COp.run .lt (.int i) (.int j) = some (decide (i < j)) := (rfl)
@[simp] theorem le_int (i j : Int) : COp.run .le (.int i) (.int j) = some (decide (i ≤ j)) := (rfl)
@[simp] theorem gt_int (i j : Int) : COp.run .gt (.int i) (.int j) = some (decide (j < i)) := (rfl)
@[simp] theorem ge_int (i j : Int) : COp.run .ge (.int i) (.int j) = some (decide (j ≤ i)) := (rfl)
@[simp] theorem is_non (a : D) : COp.run .is_ a .non = some (decide (a = .non)) := by cases a <;> rfl
@[simp] theorem is_bl (a : D) (b : Bool) : COp.run .is_ a (.bl b) = some (decide (a = .bl b)) := by cases a <;> rfl
@[simp] theorem isnt_non (a : D) : COp.run .isnt a .non = some (!decide (a = .non)) := by cases a <;> rfl
@[simp] theorem isnt_bl (a : D) (b : Bool) : COp.run .isnt a (.bl b) = some (!decide (a = .bl b)) := by cases a <;> rfl
@[simp] theorem eq_run (a b : D) : COp.run .eq a b = if a.okE && b.okE then some (a.eqv b) else none := (rfl)
@[simp] theorem ne_run (a b : D) : COp.run .ne a b = if a.okE && b.okE then some (!a.eqv b) else none := (rfl)
@[simp] theorem in_lst (a : D) (f : Lb) (xs : List D) : COp.run .in_ a (.lst f xs) = if a.okE && (D.lst f xs).okE then some (xs.any fun z => z.eqv a) else none := by cases a <;> rfl
@[simp] theorem in_tup (a : D) (xs : List D) : COp.run .in_ a (.tup xs) = if a.okE && (D.tup xs).okE then some (xs.any fun z => z.eqv a) else none := by cases a <;> rfl
@[simp] theorem notin_lst (a : D) (f : Lb) (xs : List D) : COp.run .notin a (.lst f xs) = if a.okE && (D.lst f xs).okE then some (!xs.any fun z => z.eqv a) else none := by cases a <;> rfl
@[simp] theorem notin_tup (a : D) (xs : List D) : COp.run .notin a (.tup xs) = if a.okE && (D.tup xs).okE then some (!xs.any fun z => z.eqv a) else none := by cases a <;> rfl
@[simp] theorem truth_bl (b : Bool) : D.truth (.bl b) = some b := (rfl)
@[simp] theorem truth_non : D.truth .non = some false := (rfl)
@[simp] theorem truth_int (i : Int) : D.truth (.int i) = some (i != 0) := (rfl)
@[simp] theorem truth_lst (f : Lb) (xs : List D) : D.truth (.lst f xs) = some (!xs.isEmpty) := (rfl)
@[simp] theorem items_lst (f : Lb) (xs : List D) : D.items (.lst f xs) = some xs := (rfl)
@[simp] theorem items_tup (xs : List D) : D.items (.tup xs) = some xs := (rfl)
@[simp] theorem items_rng (a b : Int) : D.items (.rng a b) = if small a && small b then some (ranged a b) else none := (rfl)
@[simp] theorem bi_range1' (i : Int) : Bi.run .range1 [.int i] = if small i then some (.val (.rng 0 i)) else none := (rfl)
@[simp] theorem bi_len_l (f : Lb) (xs : List D) : Bi.run .len [.lst f xs] = some (.val (.int xs.length)) := (rfl)
@[simp] theorem bi_len_t (xs : List D) : Bi.run .len [.tup xs] = some (.val (.int xs.length)) := (rfl)
@[simp] theorem bi_abs' (i : Int) : Bi.run .abs [.int i] = some (.val (.int (if i < 0 then -i else i))) := (rfl)
@[simp] theorem bi_max2' (i j : Int) : Bi.run .max2 [.int i, .int j] = some (.val (.int (if j > i then j else i))) := (rfl)
@[simp] theorem bi_min2' (i j : Int) : Bi.run .min2 [.int i, .int j] = some (.val (.int (if j < i then j else i))) := (rfl)
@[simp] theorem bi_int_i (i : Int) : Bi.run .int [.int i] = some (.val (.int i)) := (rfl)
@[simp] theorem bi_int_b (b : Bool) : Bi.run .int [.bl b] = some (.val (.int (if b then 1 else 0))) := (rfl)
@[simp] theorem bi_totup_l (f : Lb) (xs : List D) : Bi.run .toTuple [.lst f xs] = some (.val (.tup xs)) := (rfl)
@[simp] theorem bi_sum' (f : Lb) (xs : List D) : Bi.run .sum [.lst f xs] = (ints? xs).map fun is => .val (.int is.sum) := (rfl)
@[simp] theorem bi_sumL' (f : Lb) (xs : List D) : Bi.run .sumL [.lst f xs] = (lists? xs).bind fun ls => if ls.flatten.length ≤ lim then some (.new ls.flatten) else none := (rfl)
@[simp] theorem bi_sorted' (f : Lb) (xs : List D) : Bi.run .sorted [.lst f xs] = if D.alike xs && D.sortk xs then some (.new (sortD xs)) else none := (rfl)
@[simp] theorem bi_repr' (d : D) : Bi.run .repr [d] = if d.okE && d.py.showable && decide (d.py.shown.length ≤ lim) then some (.val (.str d.py.shown)) else if d = .dct then some (.val (.str "{}")) else none := (rfl)
@[simp] theorem mt_index (f : Lb) (xs : List D) (y : D) : Mt.run .index (.lst f xs) [y] = if y.okE && (D.lst f xs).okE then (xs.findIdx? fun z => z.eqv y).map fun (k : Nat) => OR.val (.int k) else none := (rfl)
@[simp] theorem mt_count (f : Lb) (xs : List D) (y : D) : Mt.run .count (.lst f xs) [y] = if y.okE && (D.lst f xs).okE then some (.val (.int (xs.countP fun z => z.eqv y))) else none := (rfl)
@[simp] theorem mt_bitlen (i : Int) : Mt.run .bitlen (.int i) [] = some (.val (.int (PySem.Builtin.Int.intBits i))) := (rfl)
@[simp] theorem recv_index (f : Lb) (xs : List D) : Mt.recv .index (.lst f xs) = true := (rfl)
@[simp] theorem recv_count (f : Lb) (xs : List D) : Mt.recv .count (.lst f xs) = true := (rfl)
@[simp] theorem recv_bitlen (i : Int) : Mt.recv .bitlen (.int i) = true := (rfl)
@[simp] theorem isRng_lst (f : Lb) (xs : List D) : D.isRng (.lst f xs) = false := (rfl)
@[simp] theorem isRng_tup (xs : List D) : D.isRng (.tup xs) = false := (rfl)
@[simp] theorem isRng_int (i : Int) : D.isRng (.int i) = false := (rfl)
@[simp] theorem isRng_bl (b : Bool) : D.isRng (.bl b) = false := (rfl)
@[simp] theorem isRng_non : D.isRng .non = false := (rfl)
@[simp] theorem isRng_dct : D.isRng .dct = false := (rfl)
@[simp] theorem isRng_str (x : Str) : D.isRng (.str x) = false := (rfl)
@[simp] theorem ty_int_int (i : Int) : Ty.has .int (.int i) = true := (rfl)
@[simp] theorem ty_int_bl (i : Bool) : Ty.has .int (.bl i) = true := (rfl)
@[simp] theorem ty_int_lst (f : Lb) (xs : List D) : Ty.has .int (.lst f xs) = false := (rfl)
@[simp] theorem ty_int_tup (xs : List D) : Ty.has .int (.tup xs) = false := (rfl)
@[simp] theorem ty_int_non : Ty.has .int .non = false := (rfl)
@[simp] theorem ty_int_dct : Ty.has .int .dct = false := (rfl)
@[simp] theorem ty_int_str (x : Str) : Ty.has .int (.str x) = false := (rfl)
@[simp] theorem ty_bool_int (i : Int) : Ty.has .bool (.int i) = false := (rfl)
@[simp] theorem ty_bool_bl (i : Bool) : Ty.has .bool (.bl i) = true := (rfl)
@[simp] theorem ty_bool_lst (f : Lb) (xs : List D) : Ty.has .bool (.lst f xs) = false := (rfl)
@[simp] theorem ty_bool_tup (xs : List D) : Ty.has .bool (.tup xs) = false := (rfl)
@[simp] theorem ty_bool_non : Ty.has .bool .non = false := (rfl)
@[simp] theorem ty_bool_dct : Ty.has .bool .dct = false := (rfl)
@[simp] theorem ty_bool_str (x : Str) : Ty.has .bool (.str x) = false := (rfl)
@[simp] theorem ty_list_int (i : Int) : Ty.has .list (.int i) = false := (rfl)
@[simp] theorem ty_list_bl (i : Bool) : Ty.has .list (.bl i) = false := (rfl)
@[simp] theorem ty_list_lst (f : Lb) (xs : List D) : Ty.has .list (.lst f xs) = true := (rfl)
@[simp] theorem ty_list_tup (xs : List D) : Ty.has .list (.tup xs) = false := (rfl)
@[simp] theorem ty_list_non : Ty.has .list .non = false := (rfl)
@[simp] theorem ty_list_dct : Ty.has .list .dct = false := (rfl)
@[simp] theorem ty_list_str (x : Str) : Ty.has .list (.str x) = false := (rfl)
@[simp] theorem ty_tuple_int (i : Int) : Ty.has .tuple (.int i) = false := (rfl)
@[simp] theorem ty_tuple_bl (i : Bool) : Ty.has .tuple (.bl i) = false := (rfl)
@[simp] theorem ty_tuple_lst (f : Lb) (xs : List D) : Ty.has .tuple (.lst f xs) = false := (rfl)
@[simp] theorem ty_tuple_tup (xs : List D) : Ty.has .tuple (.tup xs) = true := (rfl)
@[simp] theorem ty_tuple_non : Ty.has .tuple .non = false := (rfl)
@[simp] theorem ty_tuple_dct : Ty.has .tuple .dct = false := (rfl)
@[simp] theorem ty_tuple_str (x : Str) : Ty.has .tuple (.str x) = false := (rfl)
@[simp] theorem ty_str_int (i : Int) : Ty.has .str (.int i) = false := (rfl)
@[simp] theorem ty_str_bl (i : Bool) : Ty.has .str (.bl i) = false := (rfl)
@[simp] theorem ty_str_lst (f : Lb) (xs : List D) : Ty.has .str (.lst f xs) = false := (rfl)
@[simp] theorem ty_str_tup (xs : List D) : Ty.has .str (.tup xs) = false := (rfl)
@[simp] theorem ty_str_non : Ty.has .str .non = false := (rfl)
@[simp] theorem ty_str_dct : Ty.has .str .dct = false := (rfl)
@[simp] theorem ty_str_str (x : Str) : Ty.has .str (.str x) = true := (rfl)
@[simp] theorem getIx_lst (f : Lb) (xs : List D) (i : Int) : getIx (.lst f xs) (.int i) = L2.atI xs i := (rfl)
@[simp] theorem getIx_tup (xs : List D) (i : Int) : getIx (.tup xs) (.int i) = L2.atI xs i := (rfl)
@[simp] theorem slice_lst (f : Lb) (xs : List D) (lo hi : Option Int) : slice (.lst f xs) lo hi = some (.new (cutG xs lo hi)) := (rfl)
/-! ### numbers -/
theorem mulOk_l {i : Int} (j : Int) (h : i.natAbs < 2 ^ 64) : mulOk i j = true := by
  unfold mulOk; rw [decide_eq_true h]; rfl
theorem mulOk_r (i : Int) {j : Int} (h : j.natAbs < 2 ^ 64) : mulOk i j = true := by
  unfold mulOk; rw [decide_eq_true h]; cases decide (i.natAbs < 2 ^ 64) <;> rfl
theorem mulOk_lo {i : Int} (j : Int) (h : 0 ≤ i) (h2 : i < 2 ^ 64) : mulOk i j = true := mulOk_l j (by omega)
theorem mulOk_hi (i : Int) {j : Int} (h : 0 ≤ j) (h2 : j < 2 ^ 64) : mulOk i j = true := mulOk_r i (by omega)
@[simp] theorem mulOk_litl (n : Nat) (j : Int) (h : n < 2 ^ 64) : mulOk (no_index (OfNat.ofNat n)) j = true := mulOk_l j h
@[simp] theorem mulOk_litr (n : Nat) (j : Int) (h : n < 2 ^ 64) : mulOk j (no_index (OfNat.ofNat n)) = true := mulOk_r j h
theorem small_of {i : Int} (h : -(2 ^ 62) ≤ i) (h2 : i < 2 ^ 62) : small i = true := by
  unfold small; rw [decide_eq_true h, decide_eq_true h2]; rfl
@[simp] theorem small_nat_len {α : Type} (l : List α) : small (l.length : Int) = decide (l.length < 2 ^ 62) := by
  unfold small
  have : -(2 ^ 62) ≤ (l.length : Int) := by omega
  simp [this]; omega
theorem ranged_nat (n : Nat) : ranged 0 (n : Int) = (List.range n).map fun k : Nat => D.int k := by
  unfold ranged; simp
@[simp] theorem ranged_01 : ranged 0 1 = [.int 0] := (rfl)
theorem bits_lt {n : Int} (h : n.natAbs < 2 ^ 29) : PySem.Builtin.Int.intBits n < 30 := by
  unfold PySem.Builtin.Int.intBits
  split
  · omega
  · rename_i h0
    have h1 : n.natAbs ≠ 0 := by simpa using h0
    have := (Nat.log2_lt h1).mpr h
    omega
/-! ### data of numbers -/
@[simp] theorem ages_map {α : Type} (g : α → D) (l : List α) : D.ages (l.map g) = l.map fun a => (g a).age := by
  induction l with
  | nil => rfl
  | cons a l ih => simp [D.ages, ih]
@[simp] theorem ages_nil : D.ages [] = [] := (rfl)
@[simp] theorem ages_cons (d : D) (l : List D) : D.ages (d :: l) = d.age :: D.ages l := (rfl)
@[simp] theorem age_int (i : Int) : D.age (.int i) = .int i := (rfl)
@[simp] theorem age_bl (i : Bool) : D.age (.bl i) = .bl i := (rfl)
@[simp] theorem age_non : D.age .non = .non := (rfl)
@[simp] theorem age_dct : D.age .dct = .dct := (rfl)
@[simp] theorem age_str (x : Str) : D.age (.str x) = .str x := (rfl)
@[simp] theorem age_lst (f : Lb) (l : List D) : D.age (.lst f l) = .lst f.age (D.ages l) := (rfl)
@[simp] theorem age_tup (l : List D) : D.age (.tup l) = .tup (D.ages l) := (rfl)
@[simp] theorem age_nu : Lb.age .nu = .ol := (rfl)
@[simp] theorem age_ol : Lb.age .ol = .ol := (rfl)
@[simp] theorem age_ro : Lb.age .ro = .ro := (rfl)
@[simp] theorem dep_int (i : Int) : D.dep (.int i) = 0 := (rfl)
@[simp] theorem dep_bl (i : Bool) : D.dep (.bl i) = 0 := (rfl)
@[simp] theorem dep_non : D.dep .non = 0 := (rfl)
@[simp] theorem dep_lst (f : Lb) (l : List D) : D.dep (.lst f l) = D.deps l + 1 := by simp only [D.dep]
@[simp] theorem dep_tup (l : List D) : D.dep (.tup l) = D.deps l + 1 := by simp only [D.dep]
theorem deps_le {n : Nat} : ∀ {l : List D}, (∀ d ∈ l, d.dep ≤ n) → D.deps l ≤ n
  | [], _ => Nat.zero_le _
  | d :: l, h => by
    simp only [D.deps]
    exact Nat.max_le.mpr ⟨h d List.mem_cons_self, deps_le fun e he => h e (List.mem_cons_of_mem _ he)⟩
@[simp] theorem deps_nil : D.deps [] = 0 := (rfl)
@[simp] theorem deps_cons (d : D) (l : List D) : D.deps (d :: l) = max d.dep (D.deps l) := by simp only [D.deps]
@[simp] theorem deps_ints (l : List Int) : D.deps (l.map D.int) = 0 := by
  have : D.deps (l.map D.int) ≤ 0 := deps_le fun d hd => by
    obtain ⟨i, _, rfl⟩ := List.mem_map.mp hd; simp
  omega
theorem okE_of {d : D} (h : d.dep ≤ 50) : d.okE = true := by unfold D.okE; simp [h]
@[simp] theorem okE_int (i : Int) : D.okE (.int i) = true := (rfl)
@[simp] theorem okE_bl (i : Bool) : D.okE (.bl i) = true := (rfl)
@[simp] theorem okE_non : D.okE .non = true := (rfl)
@[simp] theorem okE_lst (f : Lb) (l : List D) : D.okE (.lst f l) = decide (D.deps l ≤ 49) := by
  unfold D.okE; simp
@[simp] theorem okE_tup (l : List D) : D.okE (.tup l) = decide (D.deps l ≤ 49) := by
  unfold D.okE; simp
theorem deps_map {α : Type} {n : Nat} {g : α → D} (h : ∀ a, (g a).dep ≤ n) (l : List α) : D.deps (l.map g) ≤ n := deps_le fun d hd => by
  obtain ⟨i, _, rfl⟩ := List.mem_map.mp hd; exact h i
@[simp] theorem deps_intss (f : Lb) (l : List (List Int)) : D.deps (l.map fun r => D.lst f (r.map D.int)) ≤ 49 := by
  have := deps_map (n := 1) (g := fun r => D.lst f (List.map D.int r)) (fun a => by simp) l
  omega
@[simp] theorem eqv_int (i j : Int) : D.eqv (.int i) (.int j) = decide (i = j) := by
  simp only [D.eqv, D.py, PyData.eqv]; rw [Bool.eq_iff_iff]; simp
theorem pys_map (l : List D) : D.pys l = l.map D.py := by
  induction l with
  | nil => rfl
  | cons a l ih => simp [D.pys, ih]
theorem eqvAll_eq (xs ys : List D) : PyData.eqvAll (D.pys xs) (D.pys ys) = (decide (xs.length = ys.length) && (xs.zip ys).all fun p => p.1.eqv p.2) := by
  induction xs generalizing ys with
  | nil => cases ys <;> simp [D.pys, PyData.eqvAll]
  | cons x xs ih =>
    cases ys with
    | nil => simp [D.pys, PyData.eqvAll]
    | cons y ys =>
      simp only [D.pys, PyData.eqvAll, ih, List.length_cons, List.zip_cons_cons, List.all_cons]
      rw [Bool.eq_iff_iff]; simp [D.eqv]
      exact ⟨fun ⟨a, b, c⟩ => ⟨b, a, c⟩, fun ⟨b, a, c⟩ => ⟨a, b, c⟩⟩
def eqs : List D → List D → Bool
  | [], [] => true
  | x :: xs, y :: ys => x.eqv y && eqs xs ys
  | _, _ => false
theorem eqs_py : ∀ xs ys : List D, PyData.eqvAll (D.pys xs) (D.pys ys) = eqs xs ys
  | [], [] => rfl
  | [], _ :: _ => rfl
  | _ :: _, [] => rfl
  | x :: xs, y :: ys => by simp only [D.pys, PyData.eqvAll, eqs, eqs_py xs ys]; rfl
@[simp] theorem eqv_lst (f g : Lb) (xs ys : List D) : D.eqv (.lst f xs) (.lst g ys) = eqs xs ys := by
  simp only [D.eqv, D.py, PyData.eqv, eqs_py]
@[simp] theorem eqv_tup (xs ys : List D) : D.eqv (.tup xs) (.tup ys) = eqs xs ys := by
  simp only [D.eqv, D.py, PyData.eqv, eqs_py]
@[simp] theorem eqs_nn : eqs [] [] = true := (rfl)
@[simp] theorem eqs_nc (x : D) (xs : List D) : eqs [] (x :: xs) = false := (rfl)
@[simp] theorem eqs_cn (x : D) (xs : List D) : eqs (x :: xs) [] = false := (rfl)
@[simp] theorem eqs_cc (x y : D) (xs ys : List D) : eqs (x :: xs) (y :: ys) = (x.eqv y && eqs xs ys) := (rfl)
@[simp] theorem eqs_nil (xs : List D) : eqs xs [] = xs.isEmpty := by cases xs <;> rfl
theorem eqs_map {α : Type} [DecidableEq α] {g g' : α → D} (h : ∀ a b, (g a).eqv (g' b) = decide (a = b)) : ∀ xs ys : List α, eqs (xs.map g) (ys.map g') = decide (xs = ys)
  | [], [] => rfl
  | [], _ :: _ => by simp
  | _ :: _, [] => by simp
  | x :: xs, y :: ys => by
    simp only [List.map_cons, eqs_cc, h, eqs_map h xs ys, List.cons.injEq]
    rw [Bool.eq_iff_iff]; simp
@[simp] theorem eqs_ints (xs ys : List Int) : eqs (xs.map D.int) (ys.map D.int) = decide (xs = ys) := eqs_map eqv_int xs ys
@[simp] theorem eqs_intss (f g : Lb) (xs ys : List (List Int)) : eqs (xs.map fun r => .lst f (r.map D.int)) (ys.map fun r => .lst g (r.map D.int)) = decide (xs = ys) := eqs_map (fun a b => by simp) xs ys
@[simp] theorem any_ints (xs : List Int) (i : Int) : ((xs.map D.int).any fun z => z.eqv (.int i)) = decide (i ∈ xs) := by
  induction xs with
  | nil => simp
  | cons a l ih => simp only [List.map_cons, List.any_cons, ih, eqv_int, List.mem_cons]; rw [Bool.eq_iff_iff]; simp; rw [eq_comm (a := i)]
@[simp] theorem find_ints (xs : List Int) (i : Int) : ((xs.map D.int).findIdx? fun z => z.eqv (.int i)) = xs.findIdx? (fun z => z == i) := by
  rw [List.findIdx?_map]; congr
@[simp] theorem count_ints (xs : List Int) (i : Int) : ((xs.map D.int).countP fun z => z.eqv (.int i)) = xs.count i := by
  rw [List.countP_map, List.count]; congr
@[simp] theorem ints?_ints (l : List Int) : ints? (l.map D.int) = some l := by
  induction l with
  | nil => rfl
  | cons a l ih => simp [ints?, ih]
@[simp] theorem lists?_map {α : Type} (f : Lb) (hf : tracked f = true) (g : α → List D) (l : List α) : lists? (l.map fun a => .lst f (g a)) = some (l.map g) := by
  induction l with
  | nil => rfl
  | cons a l ih => simp [lists?, ih, hf]
/-! ### items -/
theorem atI_nat {α : Type} (xs : List α) (k : Nat) : L2.atI xs (k : Int) = xs[k]? := by
  unfold L2.atI L2.ixN
  by_cases h : k < xs.length
  · simp [h]
  · simp [h]
theorem atI_of {α : Type} {xs : List α} {i : Int} (h : 0 ≤ i) : L2.atI xs i = xs[i.toNat]? := by
  obtain ⟨k, rfl⟩ := Int.eq_ofNat_of_zero_le h
  exact atI_nat xs k
theorem atI_map {α : Type} (g : α → D) (xs : List α) (i : Int) : L2.atI (xs.map g) i = (L2.atI xs i).map g := by
  unfold L2.atI
  rw [List.length_map]
  cases L2.ixN xs.length i <;> simp
theorem atI_neg {α : Type} {xs : List α} {i : Int} (h : i < 0) (h2 : -(xs.length : Int) ≤ i) : L2.atI xs i = xs[(i + xs.length).toNat]? := by
  unfold L2.atI L2.ixN
  rw [if_neg (by omega), if_pos h2]; rfl
@[simp] theorem atI_lit {α : Type} (xs : List α) (n : Nat) : L2.atI xs (no_index (OfNat.ofNat n : Int)) = xs[n]? := atI_nat xs n
theorem ixN_nat {n k : Nat} (h : k < n) : L2.ixN n (k : Int) = some k := by
  unfold L2.ixN; simp [h]
theorem ixN_of {n : Nat} {i : Int} (h : 0 ≤ i) (h2 : i < n) : L2.ixN n i = some i.toNat := by
  unfold L2.ixN; rw [if_pos h, if_pos h2]
@[simp] theorem ixN_lit (n k : Nat) : L2.ixN n (no_index (OfNat.ofNat k : Int)) = if k < n then some k else none := by
  show L2.ixN n (k : Int) = _
  unfold L2.ixN; simp
theorem sIx_nat (n d : Nat) {i : Int} (h : 0 ≤ i) : HT.sIx n d (some i) = min i.toNat n := by
  show (if i < 0 then _ else _) = _
  rw [if_neg (by omega)]
@[simp] theorem cutG_from {α : Type} (xs : List α) (k : Nat) : cutG xs (some (no_index (OfNat.ofNat k))) none = xs.drop k := by
  unfold cutG
  rw [sIx_nat _ _ (by exact Int.natCast_nonneg k), show HT.sIx xs.length xs.length none = xs.length from rfl]
  show List.take (xs.length - min k xs.length) (List.drop (min k xs.length) xs) = _
  by_cases h : k ≤ xs.length
  · rw [Nat.min_eq_left h, List.take_of_length_le (by simp)]
  · rw [Nat.min_eq_right (by omega), List.drop_eq_nil_of_le (by omega : xs.length ≤ k)]; simp
theorem cutG_fromN {α : Type} (xs : List α) (k : Nat) : cutG xs (some (k : Int)) none = xs.drop k := by
  unfold cutG
  rw [sIx_nat _ _ (Int.natCast_nonneg k), show HT.sIx xs.length xs.length none = xs.length from rfl]
  show List.take (xs.length - min k xs.length) (List.drop (min k xs.length) xs) = _
  by_cases h : k ≤ xs.length
  · rw [Nat.min_eq_left h, List.take_of_length_le (by simp)]
  · rw [Nat.min_eq_right (by omega), List.drop_eq_nil_of_le (by omega : xs.length ≤ k)]; simp
@[simp] theorem cutG_from1 {α : Type} (xs : List α) : cutG xs (some 1) none = xs.drop 1 := cutG_fromN xs 1
theorem cutG_toN {α : Type} (xs : List α) (k : Nat) : cutG xs none (some (k : Int)) = xs.take k := by
  unfold cutG
  rw [sIx_nat _ _ (Int.natCast_nonneg k), show HT.sIx xs.length 0 none = 0 from rfl]
  simp
@[simp] theorem cutG_to1 {α : Type} (xs : List α) : cutG xs none (some 1) = xs.take 1 := cutG_toN xs 1
theorem cutG_midN {α : Type} (xs : List α) (j k : Nat) : cutG xs (some (j : Int)) (some (k : Int)) = (xs.drop j).take (k - j) := by
  unfold cutG
  rw [sIx_nat _ _ (Int.natCast_nonneg k), sIx_nat _ _ (Int.natCast_nonneg j)]
  simp only [Int.toNat_natCast]
  by_cases h : j ≤ xs.length
  · rw [Nat.min_eq_left h]
    by_cases h2 : k ≤ xs.length
    · rw [Nat.min_eq_left h2]
    · rw [Nat.min_eq_right (by omega : xs.length ≤ k), List.take_of_length_le (by simp), List.take_of_length_le (by simp; omega)]
  · rw [Nat.min_eq_right (by omega : xs.length ≤ j), List.drop_eq_nil_of_le (by omega : xs.length ≤ j)]; simp
theorem cutG_map {α : Type} (g : α → D) (xs : List α) (lo hi : Option Int) : cutG (xs.map g) lo hi = (cutG xs lo hi).map g := by
  unfold cutG; simp
@[simp] theorem nIo_nil : nIo [] = 0 := (rfl)
@[simp] theorem nIo_v (d : D) (as : List Arg) : nIo (.v d :: as) = nIo as := by
  unfold nIo; rw [List.countP_cons_of_neg]; simp [isIo]
@[simp] theorem nIo_s (i : Nat) (as : List Arg) : nIo (.s i :: as) = nIo as + 1 := by
  unfold nIo; rw [List.countP_cons_of_pos]; simp [isIo]
@[simp] theorem oneIo_eq (as : List Arg) : oneIo as = decide (nIo as ≤ 1) := (rfl)
theorem lim_eq : lim = 16000000 := (rfl)
end Rv
set_option linter.all false
set_option maxRecDepth 100000
set_option maxHeartbeats 1000000
set_option Elab.async false
namespace Pg
open Rf Rv
def hashV (s i : Int) : Int := 
  let m := (s * 1140671 + 27644437 * i * i + 131 * i + 19) % 2147483629
  let m := (m * m + 62089 * i + 32416187) % 2147483587
  (m * 48271) % 2147483647
theorem s_hash (k : Nat) (hk : 1 ≤ k) (s i : Int) (hi : 0 ≤ i) (hi2 : i < 2 ^ 64) : depth prog k I__law_hash [.sh (.int s), .sh (.int i)] = .ret (.fz (.int (hashV s i))) [.un, .un] := by
  obtain ⟨k, rfl⟩ := Nat.exists_eq_add_of_le hk; rw [Nat.add_comm]
  refine depth_wp G__law_hash rfl ?_
  simp 
  refine ⟨mulOk_hi _ hi hi2, mulOk_lo _ (Int.emod_nonneg _ (by decide)) ?_, (rfl)⟩
  have := Int.emod_lt_of_pos (s * 1140671 + 27644437 * i * i + 131 * i + 19) (show (0 : Int) < 2147483629 by decide)
  omega
theorem hashV_lo (s i : Int) : 0 ≤ hashV s i := Int.emod_nonneg _ (by decide)
theorem hashV_hi (s i : Int) : hashV s i < 2147483647 := Int.emod_lt_of_pos _ (by decide)
theorem perm_eraseIdx {α : Type} : ∀ (l : List α) (i : Nat) (h : i < l.length), (l[i] :: l.eraseIdx i).Perm l
  | a :: l, 0, _ => .refl _
  | a :: l, i + 1, h => by
    have := perm_eraseIdx l i (by simpa using h)
    simp only [List.getElem_cons_succ, List.eraseIdx_cons_succ]
    exact (List.Perm.swap a _ _).trans (this.cons a)
theorem map_eraseIdx {α β : Type} (f : α → β) : ∀ (l : List α) (i : Nat), (l.map f).eraseIdx i = (l.eraseIdx i).map f
  | [], i => by simp
  | a :: l, 0 => rfl
  | a :: l, i + 1 => by simp [map_eraseIdx f l i]
/-- a generator: digits left, a seed, a count -/
structure Gen where
  a : Int
  b : Int
  c : Int
/-- so many draws may follow -/
def Gen.ok (g : Gen) (n : Nat) : Prop := 0 ≤ g.a ∧ 0 ≤ g.c ∧ g.c + n < 2 ^ 60
theorem Gen.ok.mono {g : Gen} {n m : Nat} (h : g.ok n) (hm : m ≤ n) : g.ok m := ⟨h.1, h.2.1, by have := h.2.2; omega⟩
def Gen.ds (g : Gen) : List D := [.int g.a, .int g.b, .int g.c]
@[simp] theorem Gen.ages_ds (g : Gen) : D.ages g.ds = g.ds := rfl
/-- what is drawn below a bound of few bits, and the generator behind it -/
def rndV (g : Gen) (n : Int) : Int := if 0 < g.a then g.a % n else hashV g.b (g.c + 1) % n
def rndG (g : Gen) (n : Int) : Gen := if 0 < g.a then ⟨g.a / n, g.b, g.c⟩ else ⟨g.a, g.b, g.c + 1⟩
theorem s_random (k : Nat) (hk : 2 ≤ k) (g : Gen) (n : Int) {m : Nat} (hg : g.ok (m + 1)) (h0 : 0 < n) (h1 : n < 2 ^ 29) : depth prog k I__law_random [.ow g.ds, .sh (.int n)] = .ret (.fz (.int (rndV g n))) [.ow (rndG g n).ds, .un] := by
  obtain ⟨k, rfl⟩ := Nat.exists_eq_add_of_le hk; rw [Nat.add_comm]
  obtain ⟨ha, hc, hs⟩ := hg
  have hb : n.natAbs < big := Nat.lt_trans (show n.natAbs < 2 ^ 29 by omega) (by decide +kernel)
  have hb2 : (30 : Nat) < big := by decide +kernel
  have hbits : (PySem.Builtin.Int.intBits n : Int) / 30 = 0 := by have := bits_lt (n := n) (by omega); omega
  refine depth_wp G__law_random rfl ?_
  by_cases hp : 0 < g.a
  · simp [Gen.ds, hp, h0, hb, rndV, rndG]
  · simp [Gen.ds, hp, h0, hb, hb2, rndV, rndG, hbits, small, s_hash (k + 1) (by omega) g.b (g.c + 1) (by omega) (by omega)]
theorem rndG_ok {g : Gen} {m : Nat} (hg : g.ok (m + 1)) {n : Int} (h : 0 < n) : (rndG g n).ok m := by
  obtain ⟨ha, hc, hs⟩ := hg
  unfold rndG; split
  · exact ⟨Int.ediv_nonneg ha (by omega), hc, by dsimp only; omega⟩
  · exact ⟨ha, by dsimp only; omega, by dsimp only; omega⟩
/-! ### the script's numbers -/
theorem rndV_lo (g : Gen) {n : Int} (h : 0 < n) : 0 ≤ rndV g n := by
  unfold rndV; split <;> exact Int.emod_nonneg _ (by omega)
theorem rndV_hi (g : Gen) {n : Int} (h : 0 < n) : rndV g n < n := by
  unfold rndV; split <;> exact Int.emod_lt_of_pos _ h

def cellV (ns : List Int) (i : Nat) : Int := match ns[i]? with
  | some x => x
  | none => (ns.take 1).sum % 1000003
theorem s_cell (k : Nat) (hk : 1 ≤ k) (ns : List Int) (i : Nat) : depth prog k I__law_cell [.sh (.lst .ro (ns.map .int)), .sh (.int i)] = .ret (.fz (.int (cellV ns i))) [.un, .un] := by
  obtain ⟨k, rfl⟩ := Nat.exists_eq_add_of_le hk; rw [Nat.add_comm]
  refine depth_wp G__law_cell rfl ?_
  by_cases h : i < ns.length
  · simp [h, atI_map, atI_nat, cellV]
  · simp [h, cellV, cutG_map]
    rw [← List.map_take, ints?_ints]
    simp [List.getElem?_eq_none (Nat.le_of_not_lt h)]
def genV (ns : List Int) (i : Nat) : Gen := ⟨(if (0 : Int) > cellV ns i - 10 ^ 18 then 0 else cellV ns i - 10 ^ 18) % (10 ^ 60) ^ 10, cellV ns i % 2147483647, 1000 * i⟩
theorem s_generator (k : Nat) (hk : 2 ≤ k) (ns : List Int) (i : Nat) : depth prog k I__law_generator [.sh (.lst .ro (ns.map .int)), .sh (.int i)] = .ret (.nw (genV ns i).ds) [.un, .un] := by
  obtain ⟨k, rfl⟩ := Nat.exists_eq_add_of_le hk; rw [Nat.add_comm]
  refine depth_wp G__law_generator rfl ?_
  simp [s_cell (k + 1) (by omega) ns i, genV, Gen.ds]
theorem genV_ok (ns : List Int) (i : Nat) (hi : i ≤ 62) : (genV ns i).ok 1000000 := by
  refine ⟨Int.emod_nonneg _ (by decide), ?_, ?_⟩
  · show (0 : Int) ≤ 1000 * i; omega
  · show (1000 * i : Int) + _ < _; omega

def ordL {α : Type} : Nat → Gen → List α → List α × Gen
  | 0, g, _ => ([], g)
  | n + 1, g, xs => match xs[(rndV g xs.length).toNat]? with
    | some d => (d :: (ordL n (rndG g xs.length) (xs.eraseIdx (rndV g xs.length).toNat)).1, (ordL n (rndG g xs.length) (xs.eraseIdx (rndV g xs.length).toNat)).2)
    | none => ([], g)
def ordR {α : Type} (g : Gen) (xs : List α) : List α := (ordL xs.length g xs).1
def ordG {α : Type} (g : Gen) (xs : List α) : Gen := (ordL xs.length g xs).2
theorem ordL_step {α : Type} {n : Nat} {g : Gen} {xs : List α} (h : xs.length = n + 1) : ∃ d, xs[(rndV g xs.length).toNat]? = some d ∧ (rndV g xs.length).toNat < xs.length ∧ ordL (n + 1) g xs = (d :: (ordL n (rndG g xs.length) (xs.eraseIdx (rndV g xs.length).toNat)).1, (ordL n (rndG g xs.length) (xs.eraseIdx (rndV g xs.length).toNat)).2) := by
  have hp : (0 : Int) < xs.length := by omega
  have h1 := rndV_lo g hp
  have h2 := rndV_hi g hp
  have h3 : (rndV g xs.length).toNat < xs.length := by omega
  refine ⟨xs[(rndV g xs.length).toNat], List.getElem?_eq_getElem h3, h3, ?_⟩
  simp only [ordL, List.getElem?_eq_getElem h3]
theorem ordL_ok {α : Type} : ∀ (n m : Nat) (g : Gen) (xs : List α), xs.length = n → g.ok (n + m) → (ordL n g xs).2.ok m
  | 0, m, g, xs, _, h => by simpa [ordL] using h
  | n + 1, m, g, xs, hl, h => by
    obtain ⟨d, _, h3, e⟩ := ordL_step (g := g) hl
    rw [e]
    have hp : (0 : Int) < xs.length := by omega
    exact ordL_ok n m _ _ (by rw [List.length_eraseIdx, if_pos h3]; omega) (rndG_ok (by rw [show n + m + 1 = n + 1 + m by omega]; exact h) hp)
theorem ordG_ok {α : Type} {m : Nat} {g : Gen} {xs : List α} (h : g.ok (xs.length + m)) : (ordG g xs).ok m := ordL_ok _ m g xs rfl h
theorem ordL_perm {α : Type} : ∀ (n : Nat) (g : Gen) (xs : List α), xs.length = n → (ordL n g xs).1.Perm xs
  | 0, g, xs, h => by rw [List.length_eq_zero_iff.mp h]; exact .nil
  | n + 1, g, xs, h => by
    obtain ⟨d, hd, h3, e⟩ := ordL_step (g := g) h
    rw [e]
    have p := ordL_perm n (rndG g xs.length) (xs.eraseIdx (rndV g xs.length).toNat) (by rw [List.length_eraseIdx, if_pos h3]; omega)
    refine (p.cons d).trans ?_
    have hd2 : xs[(rndV g xs.length).toNat] = d := by rw [List.getElem?_eq_getElem h3] at hd; exact Option.some.inj hd
    rw [← hd2]
    exact perm_eraseIdx xs _ h3
theorem ordR_perm {α : Type} (g : Gen) (xs : List α) : (ordR g xs).Perm xs := ordL_perm _ g xs rfl
theorem ordL_map {α β : Type} (f : α → β) : ∀ (n : Nat) (g : Gen) (xs : List α), ordL n g (xs.map f) = ((ordL n g xs).1.map f, (ordL n g xs).2)
  | 0, g, xs => rfl
  | n + 1, g, xs => by
    simp only [ordL, List.length_map, List.getElem?_map, map_eraseIdx, ordL_map f n]
    cases xs[(rndV g xs.length).toNat]? <;> rfl
theorem ordR_map {α β : Type} (f : α → β) (g : Gen) (xs : List α) : ordR g (xs.map f) = (ordR g xs).map f := by
  unfold ordR; rw [List.length_map, ordL_map]
theorem ordG_map {α β : Type} (f : α → β) (g : Gen) (xs : List α) : ordG g (xs.map f) = ordG g xs := by
  unfold ordG; rw [List.length_map, ordL_map]
theorem s_drawn (k : Nat) (hk : 3 ≤ k) (g : Gen) (xs : List D) {m : Nat} (hg : g.ok (xs.length + m)) (h1 : xs.length < 1000) (hd : ∀ d ∈ xs, d.dep ≤ 49) (f : Lb) : depth prog k I__law_drawn_order [.ow g.ds, .sh (.lst f xs)] = .ret (.nw (ordR g xs)) [.ow (ordG g xs).ds, .un] := by
  obtain ⟨k, rfl⟩ := Nat.exists_eq_add_of_le hk; rw [Nat.add_comm]
  refine depth_wp G__law_drawn_order rfl ?_
  simp
  refine wp_whileL (fun n δ => ∃ g' left found, δ = [.ow g'.ds, .sh (.lst f xs), .ow left, .ow found] ∧ left.length = n ∧ g'.ok (n + m) ∧ (∀ d ∈ left, d.dep ≤ 49) ∧ found.length + n = xs.length ∧ found ++ (ordL n g' left).1 = ordR g xs ∧ (ordL n g' left).2 = ordG g xs) _ xs.length _ (by unfold turns; omega) ⟨g, xs, [], rfl, rfl, hg, hd, by simp, rfl, rfl⟩ ?_
  rintro n δ ⟨g', left, found, rfl, rfl, ho, hl, hs, e1, e2⟩
  have hdl : D.deps left ≤ 49 := deps_le hl
  cases left with
  | nil =>
    simp [ordL] at e1 e2
    simp [e1, e2]
  | cons a l =>
    obtain ⟨d, q1, q2, q3⟩ := ordL_step (g := g') (xs := a :: l) (n := l.length) rfl
    have hp : (0 : Int) < ((a :: l).length : Nat) := by simp
    have hp2 : (0 : Int) < (l.length : Int) + 1 := by omega
    have ho' : g'.ok (l.length + m + 1) := by rw [show l.length + m + 1 = (a :: l).length + m by simp; omega]; exact ho
    have hix : L2.ixN (l.length + 1) (rndV g' ((l.length : Int) + 1)) = some (rndV g' ((l.length : Int) + 1)).toNat := ixN_of (rndV_lo _ hp2) (by have := rndV_hi g' hp2; omega)
    have hlim : found.length < lim := by rw [lim_eq]; simp at hs; omega
    have hlim2 : l.length + 1 ≤ lim := by rw [lim_eq]; simp at hs; omega
    simp only [List.length_cons, Int.natCast_add, Int.cast_ofNat_Int] at q1 q2 q3
    simp at hs
    have hs2 := s_random (k + 2) (by omega) g' ((l.length : Int) + 1) ho' hp2 (by omega)
    simp at hdl
    simp [hdl, hs2, hix, q1, hlim, hlim2]
    refine ⟨l.length, by omega, ?_⟩
    refine ⟨rndG g' ((l.length : Int) + 1), (a :: l).eraseIdx (rndV g' ((l.length : Int) + 1)).toNat, found ++ [d], ⟨rfl, rfl, rfl⟩, ?_⟩
    have q4 : ((a :: l).eraseIdx (rndV g' ((l.length : Int) + 1)).toNat).length = l.length := by rw [List.length_eraseIdx, if_pos (by simpa using q2)]; simp
    refine ⟨q4, rndG_ok ho' hp2, fun d hd => hl d (List.mem_of_mem_eraseIdx hd), by simp; omega, ?_, ?_⟩
    · rw [← e1]
      simp only [List.length_cons]
      rw [q3]; simp
    · rw [← e2]
      simp only [List.length_cons]
      rw [q3]
end Pg
set_option linter.all false
set_option maxRecDepth 100000
set_option maxHeartbeats 1000000
set_option Elab.async false
/-! lists of counts -/
namespace Rv
open Rf
section
@[simp] theorem natCast_eq (a b : Nat) : ((a : Int) = (b : Int)) = (a = b) := by
  apply propext; omega
@[simp] theorem eqv_nat (i j : Nat) : D.eqv (.int (i : Int)) (.int (j : Int)) = decide (i = j) := by
  simp only [eqv_int]; rw [Bool.eq_iff_iff]; simp
@[simp] theorem deps_nats (l : List Nat) : D.deps (l.map fun k : Nat => D.int k) = 0 := by
  have : D.deps (l.map fun k : Nat => D.int k) ≤ 0 := deps_map (n := 0) (g := fun k : Nat => D.int k) (fun a => by simp) l
  omega
@[simp] theorem deps_natss (f : Lb) (l : List (List Nat)) : D.deps (l.map fun r => D.lst f (r.map fun k : Nat => D.int k)) ≤ 40 := by
  have := deps_map (n := 1) (g := fun r => D.lst f (List.map (fun k : Nat => D.int k) r)) (fun a => by simp) l
  omega
@[simp] theorem deps_natss' (f : Lb) (l : List (List Nat)) : D.deps (l.map fun r => D.lst f (r.map fun k : Nat => D.int k)) ≤ 49 := by
  have := deps_natss f l
  omega
@[simp] theorem eqs_nats (xs ys : List Nat) : eqs (xs.map fun k : Nat => D.int k) (ys.map fun k : Nat => D.int k) = decide (xs = ys) := eqs_map eqv_nat xs ys
@[simp] theorem eqs_natss (f g : Lb) (xs ys : List (List Nat)) : eqs (xs.map fun r => .lst f (r.map fun k : Nat => D.int k)) (ys.map fun r => .lst g (r.map fun k : Nat => D.int k)) = decide (xs = ys) := eqs_map (fun a b => by simp) xs ys
theorem any_map {α : Type} [DecidableEq α] {g g' : α → D} (h : ∀ a b, (g a).eqv (g' b) = decide (a = b)) (xs : List α) (b : α) : ((xs.map g).any fun z => z.eqv (g' b)) = decide (b ∈ xs) := by
  induction xs with
  | nil => simp
  | cons a l ih => simp only [List.map_cons, List.any_cons, ih, h, List.mem_cons]; rw [Bool.eq_iff_iff]; simp; rw [eq_comm (a := b)]
@[simp] theorem any_nats (xs : List Nat) (i : Nat) : ((xs.map fun k : Nat => D.int k).any fun z => z.eqv (.int (i : Int))) = decide (i ∈ xs) := any_map (g := fun k : Nat => D.int k) eqv_nat xs i
@[simp] theorem any_natss (f g : Lb) (xs : List (List Nat)) (i : List Nat) : ((xs.map fun r => D.lst f (r.map fun k : Nat => D.int k)).any fun z => z.eqv (.lst g (i.map fun k : Nat => D.int k))) = decide (i ∈ xs) := by
  rw [any_map (g := fun r => D.lst f (r.map fun k : Nat => D.int k)) (g' := fun r => D.lst g (r.map fun k : Nat => D.int k)) (fun a b => by simp) xs i]
  exact decide_eq_decide.mpr Iff.rfl
theorem any_map' {α : Type} [DecidableEq α] {g g' : α → D} (h : ∀ a b, (g a).eqv (g' b) = decide (a = b)) (xs : List α) (b : α) : (xs.any ((fun z => z.eqv (g' b)) ∘ g)) = decide (b ∈ xs) := by
  rw [← any_map h xs b, List.any_map]
@[simp] theorem any_nats' (xs : List Nat) (i : Nat) : (xs.any ((fun z => D.eqv z (.int (i : Int))) ∘ fun k : Nat => D.int k)) = decide (i ∈ xs) := any_map' (g := fun k : Nat => D.int k) eqv_nat xs i
@[simp] theorem any_natss' (f g : Lb) (xs : List (List Nat)) (i : List Nat) : (xs.any ((fun z => D.eqv z (.lst g (i.map fun k : Nat => D.int k))) ∘ fun r => D.lst f (r.map fun k : Nat => D.int k))) = decide (i ∈ xs) := by
  rw [← any_natss f g xs i, List.any_map]
theorem find_nats (xs : List Nat) (i : Nat) (h : i ∈ xs) : ((xs.map fun k : Nat => D.int k).findIdx? fun z => z.eqv (.int (i : Int))) = some (xs.idxOf i) := by
  rw [List.findIdx?_map]
  have : (fun z => D.eqv z (D.int (i : Int))) ∘ (fun k : Nat => D.int k) = fun z => z == i := by
    funext z; simp only [Function.comp, eqv_nat]; rfl
  rw [this, List.findIdx?_eq_some_iff_findIdx_eq]
  exact ⟨List.idxOf_lt_length_of_mem h, rfl⟩
@[simp] theorem count_nats (xs : List Nat) (i : Nat) : ((xs.map fun k : Nat => D.int k).countP fun z => z.eqv (.int (i : Int))) = xs.count i := by
  rw [List.countP_map, List.count]
  have : (fun z => D.eqv z (D.int (i : Int))) ∘ (fun k : Nat => D.int k) = fun z => z == i := by
    funext z; simp only [Function.comp, eqv_nat]; rfl
  rw [this]
@[simp] theorem count_nats' (xs : List Nat) (i : Nat) : xs.countP ((fun z => D.eqv z (.int (i : Int))) ∘ fun k : Nat => D.int k) = xs.count i := by
  rw [← count_nats, List.countP_map]
@[simp] theorem ints?_nats (l : List Nat) : ints? (l.map fun k : Nat => D.int k) = some (l.map fun k : Nat => (k : Int)) := by
  rw [show (l.map fun k : Nat => D.int k) = (l.map fun k : Nat => (k : Int)).map D.int by simp, ints?_ints]
theorem mt_index_nat (f : Lb) (xs : List Nat) (i : Nat) (h : i ∈ xs) : Mt.run .index (.lst f (xs.map fun k : Nat => D.int k)) [.int (i : Int)] = some (.val (.int (xs.idxOf i : Nat))) := by
  simp [find_nats xs i h]
@[simp] theorem filter_no {α : Type} (l : List α) : l.filter (fun _ => false) = [] := by simp
@[simp] theorem filter_yes {α : Type} (l : List α) : l.filter (fun _ => true) = l := by simp
theorem limk {n : Nat} (h : n ≤ 100000) : n ≤ lim := by rw [lim_eq]; omega
theorem limk' {n : Nat} (h : n ≤ 100000) : n < lim := by rw [lim_eq]; omega
@[simp] theorem lim0 : 0 ≤ lim := Nat.zero_le _
theorem filter_empty {α : Type} (p : α → Bool) (l : List α) : (l.filter p).isEmpty = l.all fun a => !p a := by
  induction l with
  | nil => rfl
  | cons a l ih => by_cases h : p a = true <;> simp [h, ih]
theorem wokN {δ : Envr} : wok none δ := True.intro
/-- comprehensions whose items are kept by a test -/
theorem wp_compF {α : Type} {δ : Envr} {X : EX} {w : Option (Nat × List D)} {f : D → M (Option D)} {Q : List D → Envr → Prop} (g : α → D) (p : α → Bool) (e : α → D) (l : List α) (hw : wok w δ) (H : ∀ a ∈ l, wp (f (g a)) δ (fun o d => o = (if p a = true then some (e a) else none) ∧ d = δ) NX) (q : Q ((l.filter p).map e) δ) : wp (compL w f (l.map g)) δ Q X := by
  refine wp_compL g (fun a => if p a = true then some (e a) else none) l hw H ?_
  have : l.filterMap (fun a => if p a = true then some (e a) else none) = (l.filter p).map e := by
    induction l with
    | nil => rfl
    | cons a l ih =>
      have ih := ih (fun b hb => H b (List.mem_cons_of_mem _ hb))
      by_cases h : p a = true
      · simp [h]
        rw [← List.filterMap_eq_map, List.filterMap_filter]
        congr
      · simp [h]
        rw [← List.filterMap_eq_map, List.filterMap_filter]
        congr
  rw [this]
  exact q
end
end Rv
namespace Pg
open Rf Rv
/-- a list of all counts below a number, each once -/
def Ord (m : Nat) (l : List Nat) : Prop := l.Perm (List.range m)
theorem Ord.len {m : Nat} {l : List Nat} (h : Ord m l) : l.length = m := by simpa using h.length_eq
theorem Ord.mem {m : Nat} {l : List Nat} (h : Ord m l) {a : Nat} : a ∈ l ↔ a < m := by
  rw [h.mem_iff, List.mem_range]
theorem Ord.nodup {m : Nat} {l : List Nat} (h : Ord m l) : l.Nodup := (h.nodup_iff).mpr List.nodup_range
theorem Ord.count {m : Nat} {l : List Nat} (h : Ord m l) (a : Nat) : l.count a ≤ 1 := (List.nodup_iff_count.mp h.nodup) a
theorem s_is_whole (k : Nat) (hk : 1 ≤ k) (i : Int) : depth prog k I_is_whole [.sh (.int i)] = .ret (.fz (.bl true)) [.un] := by
  obtain ⟨k, rfl⟩ := Nat.exists_eq_add_of_le hk; rw [Nat.add_comm]
  refine depth_wp G_is_whole rfl ?_
  simp
theorem s_is_count (k : Nat) (hk : 2 ≤ k) (i : Int) : depth prog k I_is_count [.sh (.int i)] = .ret (.fz (.bl (decide (0 ≤ i)))) [.un] := by
  obtain ⟨k, rfl⟩ := Nat.exists_eq_add_of_le hk; rw [Nat.add_comm]
  refine depth_wp G_is_count rfl ?_
  simp [s_is_whole (k + 1) (by omega)]
theorem s_is_below (k : Nat) (hk : 3 ≤ k) (i j : Nat) : depth prog k I_is_below [.sh (.int i), .sh (.int j)] = .ret (.fz (.bl (decide (i < j)))) [.un, .un] := by
  obtain ⟨k, rfl⟩ := Nat.exists_eq_add_of_le hk; rw [Nat.add_comm]
  refine depth_wp G_is_below rfl ?_
  simp [s_is_count (k + 2) (by omega)]
theorem s_is_order_of (k : Nat) (hk : 4 ≤ k) (m : Nat) (l : List Nat) (h : Ord m l) : depth prog k I_is_order_of [.sh (.int m), .sh (.lst .ol (l.map fun k : Nat => D.int k))] = .ret (.fz (.bl true)) [.un, .un] := by
  obtain ⟨k, rfl⟩ := Nat.exists_eq_add_of_le hk; rw [Nat.add_comm]
  refine depth_wp G_is_order_of rfl ?_
  simp [h.len]
  refine wp_compF _ (fun _ => false) (fun k : Nat => D.int k) l wokN (fun a ha => ?_) ?_
  · simp [s_is_below (k + 3) (by omega), h.mem.mp ha]
  · simp
    refine wp_compF _ (fun _ => false) (fun k : Nat => D.int k) l wokN (fun a ha => ?_) ?_
    · have := h.count a
      simp
      omega
    · simp
theorem s_is_ranking (k : Nat) (hk : 5 ≤ k) (m : Nat) (l : List Nat) (h : Ord m l) (h1 : 1 ≤ m) (h7 : m ≤ 7) : depth prog k I_is_ranking [.sh (.lst .ol (l.map fun k : Nat => D.int k))] = .ret (.fz (.bl true)) [.un] := by
  obtain ⟨k, rfl⟩ := Nat.exists_eq_add_of_le hk; rw [Nat.add_comm]
  refine depth_wp G_is_ranking rfl ?_
  have e : (1 : Int) ≤ (m : Int) := by omega
  have e7 : (m : Int) ≤ 7 := by omega
  simp [h.len, e, e7, s_is_order_of (k + 4) (by omega) m l h]
/-- ballots: so many rankings of the same things -/
def Bal (m : Nat) (bs : List (List Nat)) : Prop := 1 ≤ m ∧ m ≤ 7 ∧ 1 ≤ bs.length ∧ bs.length ≤ 10 ∧ ∀ r ∈ bs, Ord m r
abbrev rk (f : Lb) (r : List Nat) : D := .lst f (r.map fun k : Nat => D.int k)
/-- a stretch grows by each place in turn -/
def pkL : Int → Int → List Int → Bool
  | _, _, [] => true
  | l, t, p :: ps => if p = l - 1 then pkL p t ps else if p = t + 1 then pkL l p ps else false
def pk (r ax : List Nat) : Bool := match r.map fun a => (ax.idxOf a : Int) with
  | [] => true
  | p :: ps => pkL p p ps
theorem s_is_peaked_on (k : Nat) (hk : 1 ≤ k) (r ax : List Nat) (h0 : r ≠ []) (hr : ∀ a ∈ r, a ∈ ax) : depth prog k I_is_peaked_on [.sh (.lst .ol (r.map fun k : Nat => D.int k)), .sh (.lst .ol (ax.map fun k : Nat => D.int k))] = .ret (.fz (.bl (pk r ax))) [.un, .un] := by
  obtain ⟨k, rfl⟩ := Nat.exists_eq_add_of_le hk; rw [Nat.add_comm]
  cases r with
  | nil => exact absurd rfl h0
  | cons a r =>
  refine depth_wp G_is_peaked_on rfl ?_
  simp [find_nats ax a (hr a List.mem_cons_self)]
  refine wp_forL (fun k : Nat => D.int k) (fun rem δ => (∀ b ∈ rem, b ∈ ax) ∧ ∃ l t x4 x5, δ = [.sh (.lst .ol ((a :: r).map fun k : Nat => D.int k)), .sh (.lst .ol (ax.map fun k : Nat => D.int k)), .sh (.int l), .sh (.int t), x4, x5] ∧ pkL l t (rem.map fun a => (ax.idxOf a : Int)) = pk (a :: r) ax) r _ ⟨fun b hb => hr b (List.mem_cons_of_mem _ hb), _, _, _, _, rfl, rfl⟩ ?_ ?_
  · rintro b rem δ ⟨hrem, l, t, x4, x5, rfl, e⟩
    rw [← e]
    have hb := find_nats ax b (hrem b List.mem_cons_self)
    have hrem' := fun c hc => hrem c (List.mem_cons_of_mem b hc)
    by_cases c1 : (ax.idxOf b : Int) = l - 1
    · simp [hb, pkL, c1]
      exact ⟨hrem', _, _, ⟨rfl, rfl⟩, rfl⟩
    · by_cases c2 : (ax.idxOf b : Int) = t + 1
      · have c3 : ¬ (t + 1 = l - 1) := by omega
        simp [hb, pkL, c2, c3]
        exact ⟨hrem', _, _, ⟨rfl, rfl⟩, rfl⟩
      · simp [hb, pkL, c1, c2]
  · rintro δ ⟨hrem, l, t, x4, x5, rfl, e⟩
    simp [← e, pkL]
end Pg
set_option linter.all false
set_option maxRecDepth 100000
set_option maxHeartbeats 1000000
set_option Elab.async false
namespace Rv
open Rf
@[simp] theorem lt_int' (i j : Int) : D.lt (.int i) (.int j) = decide (i < j) := by
  unfold D.lt D.py; exact PySem.W.dataLt_int i j
def leastN : Nat → List Nat → Nat
  | m, [] => m
  | m, x :: r => leastN (if x < m then x else m) r
def mostN : Nat → List Nat → Nat
  | m, [] => m
  | m, x :: r => mostN (if m < x then x else m) r
theorem least_nats : ∀ (a : Nat) (l : List Nat), least (.int a) (l.map fun k : Nat => D.int k) = .int (leastN a l)
  | a, [] => rfl
  | a, x :: l => by
    simp only [List.map_cons, least, leastN, lt_int']
    by_cases h : x < a
    · simp [h, least_nats x l]
    · simp [h, least_nats a l]
theorem most_nats : ∀ (a : Nat) (l : List Nat), most (.int a) (l.map fun k : Nat => D.int k) = .int (mostN a l)
  | a, [] => rfl
  | a, x :: l => by
    simp only [List.map_cons, most, mostN, lt_int']
    by_cases h : a < x
    · simp [h, most_nats x l]
    · simp [h, most_nats a l]
theorem leastN_mem : ∀ (a : Nat) (l : List Nat), leastN a l ∈ a :: l
  | a, [] => by simp [leastN]
  | a, x :: l => by
    unfold leastN
    by_cases h : x < a
    · rw [if_pos h]; exact List.mem_cons_of_mem _ (leastN_mem x l)
    · rw [if_neg h]
      rcases List.mem_cons.mp (leastN_mem a l) with e | e
      · rw [e]; exact List.mem_cons_self
      · exact List.mem_cons_of_mem _ (List.mem_cons_of_mem _ e)
theorem alike_nats (l : List Nat) : D.alike (l.map fun k : Nat => D.int k) = true := by
  unfold D.alike
  simp [PySem.W.alike, D.py]
theorem flats_map {α : Type} {g : α → D} (h : ∀ a, (g a).flat = true) (l : List α) : D.flats (l.map g) = true := by
  induction l with
  | nil => rfl
  | cons a l ih => simp [D.flats, h, ih]
theorem minL_nats (f : Lb) (a : Nat) (l : List Nat) : Bi.run .minL [.lst f ((a :: l).map fun k : Nat => D.int k)] = some (.val (.int (leastN a l))) := by
  have h1 := alike_nats (a :: l)
  have h2 := flats_map (g := fun k : Nat => D.int k) (fun _ => rfl) (a :: l)
  show (if D.alike ((a :: l).map fun k : Nat => D.int k) && D.flats ((a :: l).map fun k : Nat => D.int k) then some (OR.val (least (.int a) (l.map fun k : Nat => D.int k))) else none) = _
  rw [h1, h2, least_nats]; rfl
theorem maxL_nats (f : Lb) (a : Nat) (l : List Nat) : Bi.run .maxL [.lst f ((a :: l).map fun k : Nat => D.int k)] = some (.val (.int (mostN a l))) := by
  have h1 := alike_nats (a :: l)
  have h2 := flats_map (g := fun k : Nat => D.int k) (fun _ => rfl) (a :: l)
  show (if D.alike ((a :: l).map fun k : Nat => D.int k) && D.flats ((a :: l).map fun k : Nat => D.int k) then some (OR.val (most (.int a) (l.map fun k : Nat => D.int k))) else none) = _
  rw [h1, h2, most_nats]; rfl
theorem ranged_nn (a b : Nat) : ranged (a : Int) (b : Int) = (List.range' a (b - a)).map fun k : Nat => D.int k := by
  unfold ranged
  rw [show ((b : Int) - (a : Int)).toNat = b - a by omega, List.range'_eq_map_range, List.map_map]
  apply List.map_congr_left
  intro x _
  simp
theorem ranged_sn (a b : Nat) : ranged ((a : Int) + 1) (b : Int) = (List.range' (a + 1) (b - (a + 1))).map fun k : Nat => D.int k := ranged_nn (a + 1) b
theorem ranged_1n (b : Nat) : ranged 1 (b : Int) = (List.range' 1 (b - 1)).map fun k : Nat => D.int k := ranged_nn 1 b
theorem ranged_1s (b : Nat) : ranged 1 ((b : Int) + 1) = (List.range' 1 b).map fun k : Nat => D.int k := ranged_nn 1 (b + 1)
theorem atI_natD {q : List Nat} {i : Int} (h : 0 ≤ i) (h2 : i < q.length) : L2.atI (q.map fun k : Nat => D.int k) i = some (.int (q.getD i.toNat 0 : Nat)) := by
  rw [atI_map, atI_of h, List.getElem?_eq_getElem (by omega : i.toNat < q.length)]
  simp [List.getD, List.getElem?_eq_getElem (by omega : i.toNat < q.length)]
theorem atI_natN {q : List Nat} {i : Nat} (h2 : i < q.length) : L2.atI (q.map fun k : Nat => D.int k) (i : Int) = some (.int (q.getD i 0 : Nat)) := by
  have := atI_natD (q := q) (i := (i : Int)) (by omega) (by omega)
  simpa using this
theorem small_k {i : Int} (h : -1000000 ≤ i) (h2 : i ≤ 1000000) : small i = true := small_of (by omega) (by omega)
theorem enumd_map {α : Type} (g : α → D) : ∀ (l : List α) (n : Nat), enumd n (l.map g) = (l.zipIdx n).map fun p => D.tup [.int (p.2 : Nat), g p.1]
  | [], _ => rfl
  | a :: l, n => by simp [enumd, enumd_map g l (n + 1)]
end Rv
namespace Pg
open Rf Rv
/-- first falling, then rising -/
def vly (q : List Nat) : Bool := match q with
  | [] => true
  | a :: l =>
    let lo := (a :: l).idxOf (leastN a l)
    ((List.range' (lo + 1) ((a :: l).length - (lo + 1))).all fun t => !decide ((a :: l).getD t 0 < (a :: l).getD (t - 1) 0)) && ((List.range' 1 lo).all fun t => !decide ((a :: l).getD (t - 1) 0 < (a :: l).getD t 0))
def gr (bs : List (List Nat)) (b : List Nat) (o : Nat) : Bool := bs.all fun r => vly ((b ++ [o]).map fun a => r.idxOf a)
end Pg
set_option linter.all false
set_option maxRecDepth 100000
set_option maxHeartbeats 1000000
set_option Elab.async false
/-! peaked rankings by their ends: the plain part -/
namespace Pg
open Rf Rv
/-! ### lists of all counts -/
def Few (n b : Nat) (l : List Nat) : Prop := l.length = n ∧ (∀ a ∈ l, a < b) ∧ l.Nodup
theorem ord_few {m : Nat} {l : List Nat} : Ord m l ↔ Few m m l := by
  constructor
  · intro h; exact ⟨h.len, fun a ha => h.mem.mp ha, h.nodup⟩
  · rintro ⟨h1, h2, h3⟩
    refine (List.perm_ext_iff_of_nodup h3 List.nodup_range).mpr fun a => ?_
    rw [List.mem_range]
    refine ⟨h2 a, fun ha => Classical.byContradiction fun hn => ?_⟩
    have := List.Nodup.length_le_of_subset (l₁ := a :: l) (l₂ := List.range m) (List.nodup_cons.mpr ⟨hn, h3⟩) (fun b hb => by
      rw [List.mem_range]
      rcases List.mem_cons.mp hb with z | z
      · rw [z]; exact ha
      · exact h2 b z)
    simp [h1] at this
    omega
theorem idxOf_map_inj {f : Nat → Nat} {l : List Nat} {a : Nat} (h : ∀ b ∈ l, f b = f a → b = a) : (l.map f).idxOf (f a) = l.idxOf a := by
  induction l with
  | nil => rfl
  | cons b l ih =>
    have ih := ih fun c hc => h c (List.mem_cons_of_mem _ hc)
    have h0 := h b List.mem_cons_self
    rw [List.map_cons, List.idxOf_cons, List.idxOf_cons]
    by_cases e : b = a
    · subst e; simp
    · have e1 : (b == a) = false := by simpa using e
      have e2 : (f b == f a) = false := by simpa using fun z => e (h0 z)
      rw [e1, e2, ih]
theorem idxOf_lt {m : Nat} {l : List Nat} (h : Ord m l) {a : Nat} (ha : a < m) : l.idxOf a < m := by
  have := List.idxOf_lt_length_of_mem (h.mem.mpr ha)
  rwa [h.len] at this
theorem getD_idxOf {m : Nat} {l : List Nat} (h : Ord m l) {a : Nat} (ha : a < m) : l.getD (l.idxOf a) 0 = a := by
  have h1 := List.idxOf_lt_length_of_mem (h.mem.mpr ha)
  simp [List.getD, List.getElem?_eq_getElem h1, List.getElem_idxOf]
theorem idxOf_getD {m : Nat} {l : List Nat} (h : Ord m l) {i : Nat} (hi : i < m) : l.idxOf (l.getD i 0) = i := by
  have h1 : i < l.length := by rw [h.len]; exact hi
  simp only [List.getD, List.getElem?_eq_getElem h1, Option.getD_some]
  exact List.Nodup.idxOf_getElem h.nodup i h1
theorem getD_lt {m : Nat} {l : List Nat} (h : Ord m l) {i : Nat} (hi : i < m) : l.getD i 0 < m := by
  have h1 : i < l.length := by rw [h.len]; exact hi
  simp only [List.getD, List.getElem?_eq_getElem h1, Option.getD_some]
  exact h.mem.mp (List.getElem_mem h1)
theorem getD_inj {m : Nat} {l : List Nat} (h : Ord m l) {i j : Nat} (hi : i < m) (hj : j < m) (e : l.getD i 0 = l.getD j 0) : i = j := by
  rw [← idxOf_getD h hi, ← idxOf_getD h hj, e]
theorem idxOf_inj {m : Nat} {l : List Nat} (h : Ord m l) {a b : Nat} (ha : a < m) (hb : b < m) (e : l.idxOf a = l.idxOf b) : a = b := by
  rw [← getD_idxOf h ha, ← getD_idxOf h hb, e]
/-- a list of places read on an axis -/
def on (ax p : List Nat) : List Nat := p.map fun i => ax.getD i 0
theorem on_ord {m : Nat} {ax p : List Nat} (ha : Ord m ax) (hp : Ord m p) : Ord m (on ax p) := by
  rw [ord_few]
  refine ⟨by simp [on, hp.len], fun a h => ?_, ?_⟩
  · obtain ⟨i, hi, rfl⟩ := List.mem_map.mp h
    exact getD_lt ha (hp.mem.mp hi)
  · unfold on
    rw [List.Nodup, List.pairwise_map]
    refine List.Pairwise.imp_of_mem ?_ hp.nodup
    intro a b h1 h2 h3 h4
    exact h3 (getD_inj ha (hp.mem.mp h1) (hp.mem.mp h2) h4)
theorem on_idx {m : Nat} {ax p : List Nat} (ha : Ord m ax) (hp : ∀ i ∈ p, i < m) {i : Nat} (hi : i < m) : (on ax p).idxOf (ax.getD i 0) = p.idxOf i := idxOf_map_inj (f := fun i => ax.getD i 0) fun b hb e => getD_inj ha (hp b hb) hi e
theorem on_places {m : Nat} {ax p : List Nat} (ha : Ord m ax) (hp : ∀ i ∈ p, i < m) : (on ax p).map (fun a => ax.idxOf a) = p := by
  unfold on
  rw [List.map_map]
  conv => rhs; rw [← List.map_id p]
  apply List.map_congr_left
  intro i hi
  exact idxOf_getD ha (hp i hi)
/-! ### ends taken away: a stretch from a, so long, letters -/
def tkI : Nat → Nat → List Nat → List Nat
  | _, _, [] => []
  | a, n, b :: row => if b = 0 then a :: tkI (a + 1) (n - 1) row else (a + n - 1) :: tkI a (n - 1) row
def lfA : Nat → List Nat → Nat
  | a, [] => a
  | a, b :: row => if b = 0 then lfA (a + 1) row else lfA a row
def byI (n : Nat) (row : List Nat) : List Nat := List.range' (lfA 0 row) (n - row.length) ++ (tkI 0 n row).reverse
theorem tkI_len : ∀ (a n : Nat) (row : List Nat), (tkI a n row).length = row.length
  | _, _, [] => rfl
  | a, n, b :: row => by
    unfold tkI
    split <;> simp [tkI_len]
theorem tkI_app : ∀ (a n : Nat) (r1 r2 : List Nat), tkI a n (r1 ++ r2) = tkI a n r1 ++ tkI (lfA a r1) (n - r1.length) r2
  | _, _, [], _ => by simp [tkI, lfA]
  | a, n, b :: r1, r2 => by
    simp only [List.cons_append, tkI, lfA, List.length_cons]
    split
    · rw [tkI_app, show n - 1 - r1.length = n - (r1.length + 1) by omega]; rfl
    · rw [tkI_app, show n - 1 - r1.length = n - (r1.length + 1) by omega]; rfl
theorem lfA_app : ∀ (a : Nat) (r1 r2 : List Nat), lfA a (r1 ++ r2) = lfA (lfA a r1) r2
  | _, [], _ => rfl
  | a, b :: r1, r2 => by
    simp only [List.cons_append, lfA]
    split <;> rw [lfA_app]
/-- what is left and what is taken make the stretch -/
theorem tk_perm : ∀ (a n : Nat) (row : List Nat), row.length ≤ n → (List.range' (lfA a row) (n - row.length) ++ tkI a n row).Perm (List.range' a n)
  | a, n, [], _ => by simp [lfA, tkI]
  | a, n, b :: row, h => by
    simp only [List.length_cons] at h
    have e : n - (row.length + 1) = n - 1 - row.length := by omega
    unfold lfA tkI
    simp only [List.length_cons]
    rw [e]
    by_cases hb : b = 0
    · simp only [hb, if_true]
      have := tk_perm (a + 1) (n - 1) row (by omega)
      refine (List.perm_middle).trans ?_
      have e2 : List.range' a n = a :: List.range' (a + 1) (n - 1) := by
        conv => lhs; rw [show n = (n - 1) + 1 by omega]
        exact List.range'_succ
      rw [e2]
      exact this.cons a
    · simp only [if_neg hb]
      have := tk_perm a (n - 1) row (by omega)
      refine (List.perm_middle).trans ?_
      have e2 : List.range' a n = List.range' a (n - 1) ++ [a + n - 1] := by
        conv => lhs; rw [show n = (n - 1) + 1 by omega, List.range'_concat]
        simp; omega
      rw [e2]
      exact (this.cons _).trans (List.perm_append_comm (l₁ := [a + n - 1]))
theorem byI_ord {n : Nat} {row : List Nat} (h : row.length ≤ n) : Ord n (byI n row) := by
  unfold byI Ord
  rw [List.range_eq_range']
  exact ((List.reverse_perm _).append_left _).trans (tk_perm 0 n row h)
/-! ### all letters -/
def rowsL : Nat → List (List Nat)
  | 0 => [[]]
  | n + 1 => (rowsL n).flatMap fun r => [r ++ [0], r ++ [1]]
def Lets (n : Nat) (r : List Nat) : Prop := r.length = n ∧ ∀ b ∈ r, b < 2
theorem rowsL_mem : ∀ {n : Nat} {r : List Nat}, r ∈ rowsL n ↔ Lets n r
  | 0, r => by
    simp only [rowsL, List.mem_singleton, Lets]
    constructor
    · rintro rfl; simp
    · rintro ⟨h, _⟩; exact List.length_eq_zero_iff.mp h
  | n + 1, r => by
    simp only [rowsL, List.mem_flatMap, List.mem_cons, List.not_mem_nil, or_false]
    constructor
    · rintro ⟨s, hs, h⟩
      obtain ⟨h1, h2⟩ := rowsL_mem.mp hs
      rcases h with rfl | rfl
      · exact ⟨by simp [h1], fun b hb => by
          rcases List.mem_append.mp hb with z | z
          · exact h2 b z
          · rw [List.mem_singleton.mp z]; omega⟩
      · exact ⟨by simp [h1], fun b hb => by
          rcases List.mem_append.mp hb with z | z
          · exact h2 b z
          · rw [List.mem_singleton.mp z]; omega⟩
    · rintro ⟨h1, h2⟩
      have hne : r ≠ [] := fun z => by rw [z] at h1; simp at h1
      have e := List.dropLast_concat_getLast hne
      have hl := h2 _ (List.getLast_mem hne)
      refine ⟨r.dropLast, rowsL_mem.mpr ⟨by simp [h1], fun b hb => h2 b ((List.dropLast_sublist r).subset hb)⟩, ?_⟩
      generalize r.getLast hne = x at *
      have : x = 0 ∨ x = 1 := by omega
      rcases this with rfl | rfl
      · exact .inl e.symm
      · exact .inr e.symm
theorem two_len : ∀ l : List (List Nat), (l.flatMap fun r => [r ++ [0], r ++ [1]]).length = 2 * l.length
  | [] => rfl
  | r :: l => by rw [List.flatMap_cons, List.length_append, two_len l]; simp; omega
theorem rowsL_len : ∀ n, (rowsL n).length = 2 ^ n
  | 0 => rfl
  | n + 1 => by
    simp only [rowsL]
    rw [two_len, rowsL_len n, Nat.pow_succ]; omega
end Pg
set_option linter.all false
set_option maxRecDepth 100000
set_option maxHeartbeats 1000000
set_option Elab.async false
namespace Pg
open Rf Rv
/-! ### a stretch that grows -/
def pkF : Nat → Nat → List Nat → Option (Nat × Nat)
  | l, t, [] => some (l, t)
  | l, t, p :: ps => if p + 1 = l then pkF p t ps else if p = t + 1 then pkF l p ps else none
theorem pkF_app : ∀ (l t : Nat) (xs ys : List Nat), pkF l t (xs ++ ys) = (pkF l t xs).bind fun q => pkF q.1 q.2 ys
  | _, _, [], _ => rfl
  | l, t, p :: xs, ys => by
    simp only [List.cons_append, pkF]
    split
    · exact pkF_app _ _ xs ys
    · split
      · exact pkF_app _ _ xs ys
      · rfl
theorem pkL_F : ∀ (ps : List Nat) (l t : Nat), pkL l t (ps.map fun k : Nat => (k : Int)) = (pkF l t ps).isSome
  | [], _, _ => rfl
  | p :: ps, l, t => by
    simp only [List.map_cons, pkL, pkF]
    have e1 : ((p : Int) = (l : Int) - 1) ↔ (p + 1 = l) := by omega
    have e2 : ((p : Int) = (t : Int) + 1) ↔ (p = t + 1) := by omega
    simp only [e1, e2]
    split
    · exact pkL_F ps p t
    · split
      · exact pkL_F ps l p
      · rfl
def pkP : List Nat → Bool
  | [] => true
  | p :: ps => (pkF p p ps).isSome
theorem pk_P (r ax : List Nat) : pk r ax = pkP (r.map fun a => ax.idxOf a) := by
  unfold pk
  rw [show (r.map fun a => (ax.idxOf a : Int)) = (r.map fun a => ax.idxOf a).map fun k : Nat => (k : Int) by simp]
  cases r.map fun a => ax.idxOf a with
  | nil => rfl
  | cons p ps => simp only [List.map_cons, pkP, pkL_F]
theorem pkF_range : ∀ (k l t : Nat), l ≤ t → pkF l t (List.range' (t + 1) k) = some (l, t + k)
  | 0, l, t, _ => by simp [pkF]
  | k + 1, l, t, h => by
    rw [List.range'_succ]
    simp only [pkF]
    rw [if_neg (by omega), if_pos trivial, pkF_range k l (t + 1) (by omega)]
    congr 2; omega
theorem pkF_tk : ∀ (row : List Nat) (a n : Nat), row.length < n → pkF (lfA a row) (lfA a row + (n - row.length) - 1) (tkI a n row).reverse = some (a, a + n - 1)
  | [], a, n, h => by simp [lfA, tkI, pkF]
  | b :: row, a, n, h => by
    simp only [List.length_cons] at h
    unfold lfA tkI
    simp only [List.length_cons]
    have hn1 : n - 1 ≥ 1 := by omega
    by_cases hb : b = 0
    · simp only [hb, if_true, List.reverse_cons]
      have ih := pkF_tk row (a + 1) (n - 1) (by omega)
      rw [show n - 1 - row.length = n - (row.length + 1) by omega] at ih
      rw [pkF_app, ih]
      simp [pkF]
      omega
    · simp only [if_neg hb, List.reverse_cons]
      have ih := pkF_tk row a (n - 1) (by omega)
      rw [show n - 1 - row.length = n - (row.length + 1) by omega] at ih
      rw [pkF_app, ih]
      simp only [Option.bind_some, pkF]
      rw [if_neg (by omega), if_pos (by omega)]
theorem byI_pk {n : Nat} {row : List Nat} (h : row.length < n) : pkP (byI n row) = true := by
  unfold byI
  obtain ⟨k, hk⟩ : ∃ k, n - row.length = k + 1 := ⟨n - row.length - 1, by omega⟩
  have h2 := pkF_tk row 0 n h
  rw [hk] at h2 ⊢
  rw [List.range'_succ, List.cons_append]
  show (pkF (lfA 0 row) (lfA 0 row) (List.range' (lfA 0 row + 1) k ++ (tkI 0 n row).reverse)).isSome = true
  rw [pkF_app, pkF_range k _ _ (Nat.le_refl _)]
  simp only [Option.bind_some]
  rw [show lfA 0 row + (k + 1) - 1 = lfA 0 row + k by omega] at h2
  rw [h2]; rfl
/-- least and greatest of a stretch that grew -/
theorem pkF_ends : ∀ (ps : List Nat) (l t l' t' : Nat), l ≤ t → pkF l t ps = some (l', t') → leastN l ps = l' ∧ mostN t ps = t' ∧ t' - l' = t - l + ps.length ∧ l' ≤ t'
  | [], l, t, l', t', h, e => by cases e; simp [leastN, mostN, h]
  | p :: ps, l, t, l', t', h, e => by
    simp only [pkF] at e
    split at e
    · rename_i c
      obtain ⟨h1, h2, h3, h4⟩ := pkF_ends ps p t l' t' (by omega) e
      simp only [leastN, mostN]
      rw [if_pos (by omega), if_neg (by omega)]
      exact ⟨h1, h2, by simp; omega, h4⟩
    · split at e
      · rename_i c1 c
        obtain ⟨h1, h2, h3, h4⟩ := pkF_ends ps l p l' t' (by omega) e
        simp only [leastN, mostN]
        rw [if_neg (by omega), if_pos (by omega)]
        exact ⟨h1, h2, by simp; omega, h4⟩
      · cases e
/-! ### things left, told; the way back -/
theorem tkI_inj : ∀ (r s : List Nat) (a n : Nat), r.length = s.length → (∀ b ∈ r, b < 2) → (∀ b ∈ s, b < 2) → r.length < n → tkI a n r = tkI a n s → r = s
  | [], s, a, n, h, _, _, _, _ => (List.length_eq_zero_iff.mp h.symm).symm
  | b :: r, [], a, n, h, _, _, _, _ => by simp at h
  | b :: r, c :: s, a, n, h, hr, hs, hl, e => by
    have hb := hr b List.mem_cons_self
    have hc := hs c List.mem_cons_self
    have hr' := fun x hx => hr x (List.mem_cons_of_mem b hx)
    have hs' := fun x hx => hs x (List.mem_cons_of_mem c hx)
    simp only [List.length_cons] at h hl
    have h' : r.length = s.length := by omega
    unfold tkI at e
    by_cases hb0 : b = 0 <;> by_cases hc0 : c = 0
    · simp only [hb0, hc0, if_true, List.cons.injEq, true_and] at e
      rw [hb0, hc0, tkI_inj r s _ _ h' hr' hs' (by omega) e]
    · simp only [hb0, if_neg hc0, if_true, List.cons.injEq] at e
      omega
    · simp only [hc0, if_neg hb0, if_true, List.cons.injEq] at e
      omega
    · simp only [if_neg hb0, if_neg hc0, List.cons.injEq, true_and] at e
      rw [tkI_inj r s _ _ h' hr' hs' (by omega) e]
      congr 1; omega
theorem byI_drop {n : Nat} {row : List Nat} (h : row.length < n) {k : Nat} (hk : k ≤ row.length) : (byI n row).drop (n - k) = (tkI 0 n (row.take k)).reverse := by
  unfold byI
  have hl : (List.range' (lfA 0 row) (n - row.length)).length = n - row.length := by simp
  rw [List.drop_append, List.drop_eq_nil_of_le (by rw [hl]; omega), List.nil_append, hl]
  have e : tkI 0 n row = tkI 0 n (row.take k) ++ tkI (lfA 0 (row.take k)) (n - (row.take k).length) (row.drop k) := by
    rw [← tkI_app, List.take_append_drop]
  rw [e, List.reverse_append, List.drop_append]
  have hl2 : (tkI (lfA 0 (row.take k)) (n - (row.take k).length) (row.drop k)).reverse.length = row.length - k := by
    rw [List.length_reverse, tkI_len, List.length_drop]
  rw [hl2, show n - k - (n - row.length) = row.length - k by omega, Nat.sub_self, List.drop_zero, List.drop_eq_nil_of_le (by rw [hl2]; omega), List.nil_append]
/-- how many rows begin with told letters -/
def cntOk (N : Nat) : Bool := (List.range (N + 1)).all fun k => (rowsL k).all fun w => decide (((rowsL N).filter fun r => decide (r.take k = w)).length = 2 ^ (N - k))
theorem cnt6 : (List.range 7).all cntOk = true := by decide +kernel
theorem cnt_rows {N k : Nat} {w : List Nat} (hN : N ≤ 6) (hk : k ≤ N) (hw : Lets k w) : ((rowsL N).filter fun r => decide (r.take k = w)).length = 2 ^ (N - k) := by
  have h := cnt6
  rw [List.all_eq_true] at h
  have h := h N (by rw [List.mem_range]; omega)
  unfold cntOk at h
  rw [List.all_eq_true] at h
  have h := h k (by rw [List.mem_range]; omega)
  rw [List.all_eq_true] at h
  exact of_decide_eq_true (h w (rowsL_mem.mpr hw))
/-! ### neighbours, by places -/
def exch (r : List Nat) (at_ : Nat) : List Nat := r.take (at_ - 1) ++ ([r.getD at_ 0, r.getD (at_ - 1) 0] ++ r.drop (at_ + 1))
def imgs (n : Nat) : List (List Nat) := (rowsL (n - 1)).map (byI n)
def nb1 (n : Nat) : Bool := (imgs n).all fun p => (List.range' 1 (n - 1)).all fun t => !pkP (exch p t) || decide (exch p t ∈ imgs n)
def nb2 (n : Nat) : Bool := (imgs n).all fun p =>
  let sw := ((List.range' 1 (n - 1)).filter fun t => pkP (exch p t)).map fun t => (p.getD (t - 1) 0, p.getD t 0)
  (imgs n).all fun q => decide (p = q) || sw.any fun xy => decide (q.idxOf xy.2 < q.idxOf xy.1)
theorem nb1_ok : (List.range' 1 7).all nb1 = true := by decide +kernel
theorem nb2_ok : (List.range' 1 7).all nb2 = true := by decide +kernel
/-! ### read round -/
def rndI : Nat → Nat → Nat → List Nat → List Nat
  | _, _, _, [] => []
  | n, l, w, b :: row => if b = 0 then (l + n - 1) % n :: rndI n ((l + n - 1) % n) (w + 1) row else (l + w) % n :: rndI n l (w + 1) row
def rndP (n st : Nat) (row : List Nat) : List Nat := (st :: rndI n st 1 row) ++ (List.range n).filter fun i => !decide (i ∈ st :: rndI n st 1 row)
def rd1 (n : Nat) : Bool := (imgs n).all fun p => (rowsL (n - 2)).any fun row => decide (rndP n (p.getD 0 0) row = p)
theorem rd1_ok : (List.range' 2 6).all rd1 = true := by decide +kernel
end Pg
set_option linter.all false
set_option maxRecDepth 100000
set_option maxHeartbeats 1000000
set_option Elab.async false
namespace Rv
open Rf
theorem atI_m1 {α : Type} {xs : List α} (h : xs ≠ []) : L2.atI xs (-1) = xs.getLast? := by
  have hl := List.length_pos_iff.mpr h
  rw [atI_neg (by omega) (by omega), List.getLast?_eq_getElem?]
  congr 1; omega
theorem erase_nats (l : List Nat) (k : Nat) : ((l.map fun k : Nat => (k : Int)).erase (k : Int)).map D.int = (l.erase k).map fun k : Nat => D.int k := by
  induction l with
  | nil => rfl
  | cons a l ih =>
    rw [List.map_cons, List.erase_cons, List.erase_cons]
    by_cases h : a = k
    · subst h; simp
    · have h1 : ((a : Int) == (k : Int)) = false := by simp; omega
      have h2 : (a == k) = false := by simpa using h
      rw [h1, h2]
      simp only [Bool.false_eq_true, if_false, List.map_cons, ih]
theorem mem_nats {l : List Nat} {k : Nat} (h : k ∈ l) : (k : Int) ∈ l.map fun k : Nat => (k : Int) := List.mem_map.mpr ⟨k, h, rfl⟩
end Rv
namespace Pg
open Rf Rv
theorem on_cons (ax : List Nat) (a k : Nat) : on ax (List.range' a (k + 1)) = ax.getD a 0 :: on ax (List.range' (a + 1) k) := by
  unfold on; rw [List.range'_succ]; rfl
theorem on_snoc (ax : List Nat) (a k : Nat) : on ax (List.range' a (k + 1)) = on ax (List.range' a k) ++ [ax.getD (a + k) 0] := by
  unfold on; rw [List.range'_concat]; simp
theorem on_append (ax p q : List Nat) : on ax (p ++ q) = on ax p ++ on ax q := by simp [on]
theorem on_len (ax p : List Nat) : (on ax p).length = p.length := by simp [on]
theorem on_last {n : Nat} {ax : List Nat} (ha : Ord n ax) {a k : Nat} (h : a + k < n) : (on ax (List.range' a (k + 1))).erase (ax.getD (a + k) 0) = on ax (List.range' a k) := by
  rw [on_snoc, List.erase_append_right, List.erase_cons_head, List.append_nil]
  intro z
  obtain ⟨i, hi, e⟩ := List.mem_map.mp z
  rw [List.mem_range'_1] at hi
  have := getD_inj ha (by omega) (by omega) e
  omega
theorem s_check_ranking (k : Nat) (hk : 5 ≤ k) (n : Nat) (r : List Nat) (h : Ord n r) : depth prog k I_check_ranking [.sh (rk .ol r), .sh (.int n)] = .ret (.fz .non) [.un, .un] := by
  obtain ⟨k, rfl⟩ := Nat.exists_eq_add_of_le hk; rw [Nat.add_comm]
  refine depth_wp G_check_ranking rfl ?_
  simp [s_is_order_of (k + 4) (by omega) n r h]
theorem s_check_line (k : Nat) (hk : 6 ≤ k) (n : Nat) (ax : List Nat) (h : Ord n ax) (h1 : 1 ≤ n) (h7 : n ≤ 7) : depth prog k I_check_line [.sh (rk .ol ax)] = .ret (.fz .non) [.un] := by
  obtain ⟨k, rfl⟩ := Nat.exists_eq_add_of_le hk; rw [Nat.add_comm]
  refine depth_wp G_check_line rfl ?_
  simp [s_is_ranking (k + 5) (by omega) n ax h h1 h7]
/-- peaked, and a ranking of the axis' things -/
def Pkd (n : Nat) (ax r : List Nat) : Prop := Ord n r ∧ pk r ax = true
theorem s_peaked_true (k : Nat) (hk : 1 ≤ k) (n : Nat) (ax r : List Nat) (ha : Ord n ax) (h1 : 1 ≤ n) (h : Pkd n ax r) : depth prog k I_is_peaked_on [.sh (rk .ol r), .sh (rk .ol ax)] = .ret (.fz (.bl true)) [.un, .un] := by
  have hr := h.1
  rw [s_is_peaked_on k hk r ax (fun z => by have := hr.len; rw [z] at this; simp at this; omega) (fun a h => ha.mem.mpr (hr.mem.mp h)), h.2]
theorem s_check_peaked (k : Nat) (hk : 7 ≤ k) (n : Nat) (ax r : List Nat) (ha : Ord n ax) (h1 : 1 ≤ n) (h7 : n ≤ 7) (h : Pkd n ax r) : depth prog k I_check_peaked [.sh (rk .ol ax), .sh (rk .ol r)] = .ret (.fz .non) [.un, .un] := by
  obtain ⟨k, rfl⟩ := Nat.exists_eq_add_of_le hk; rw [Nat.add_comm]
  have q1 := s_check_line (k + 6) (by omega) n ax ha h1 h7
  have q2 := s_check_ranking (k + 6) (by omega) n r h.1
  have q3 := s_peaked_true (k + 6) (by omega) n ax r ha h1 h
  refine depth_wp G_check_peaked rfl ?_
  simp [q1, q2, q3, ha.len]
end Pg
set_option linter.all false
set_option maxRecDepth 100000
set_option maxHeartbeats 1000000
set_option Elab.async false
namespace Pg
open Rf Rv
theorem tkI_lt : ∀ (row : List Nat) (a n : Nat), row.length ≤ n → ∀ i ∈ tkI a n row, i < a + n
  | [], a, n, _, i, hi => by simp [tkI] at hi
  | b :: row, a, n, h, i, hi => by
    simp only [List.length_cons] at h
    unfold tkI at hi
    split at hi
    · rcases List.mem_cons.mp hi with z | z
      · omega
      · have := tkI_lt row (a + 1) (n - 1) (by omega) i z; omega
    · rcases List.mem_cons.mp hi with z | z
      · omega
      · have := tkI_lt row a (n - 1) (by omega) i z; omega
theorem lfA_le : ∀ (row : List Nat) (a : Nat), lfA a row ≤ a + row.length
  | [], a => by simp [lfA]
  | b :: row, a => by
    unfold lfA
    split
    · have := lfA_le row (a + 1); simp; omega
    · have := lfA_le row a; simp; omega
/-- the step of a loop that takes ends away -/
theorem end_step {n : Nat} {ax : List Nat} (ha : Ord n ax) {a m b : Nat} (hb : b < 2) (hm : a + (m + 1) ≤ n) :
    ∃ x : Nat, (if b = 0 then (on ax (List.range' a (m + 1)))[0]? else (on ax (List.range' a (m + 1))).getLast?) = some x ∧ x ∈ on ax (List.range' a (m + 1)) ∧ x = ax.getD (if b = 0 then a else a + m) 0 ∧ (on ax (List.range' a (m + 1))).erase x = on ax (List.range' (if b = 0 then a + 1 else a) m) := by
  by_cases h : b = 0
  · refine ⟨ax.getD a 0, ?_, ?_, ?_, ?_⟩
    · rw [if_pos h, on_cons]; rfl
    · rw [on_cons]; exact List.mem_cons_self
    · rw [if_pos h]
    · rw [if_pos h, on_cons, List.erase_cons_head]
  · refine ⟨ax.getD (a + m) 0, ?_, ?_, ?_, ?_⟩
    · rw [if_neg h, on_snoc]; simp
    · rw [on_snoc]; simp
    · rw [if_neg h]
    · rw [if_neg h]; exact on_last ha (by omega)
theorem app_one {pre rem : List Nat} {b : Nat} : pre ++ b :: rem = (pre ++ [b]) ++ rem := by simp
theorem lfA_snoc (a : Nat) (pre : List Nat) (b : Nat) : lfA a (pre ++ [b]) = if b = 0 then lfA a pre + 1 else lfA a pre := by
  rw [lfA_app]; simp only [lfA]
theorem tkI_snoc (n : Nat) (pre : List Nat) (b : Nat) : tkI 0 n (pre ++ [b]) = tkI 0 n pre ++ [if b = 0 then lfA 0 pre else lfA 0 pre + (n - pre.length) - 1] := by
  rw [tkI_app]
  congr 1
  simp only [tkI]
  split <;> rfl
/-- the loop of by_ends and left_by -/
theorem ends_loop {n : Nat} {ax row : List Nat} (ha : Ord n ax) (hn : n ≤ 1000) (hr : ∀ b ∈ row, b < 2) (hl : row.length < n) {k : Nat} {β : Envr} {Q : Out → Envr → Prop} {X : EX} (x4 x5 : SV)
    (hQ : ∀ x4 x5, Q .nx [.sh (rk .ol ax), .sh (rk .ol row), .ow ((on ax (List.range' (lfA 0 row) (n - row.length))).map fun k : Nat => D.int k), .sh (.lst .nu ((on ax (tkI 0 n row).reverse).map fun k : Nat => D.int k)), x4, x5]) :
    wp (forL (fbody (depth prog k) β (.nm 4) (.cons (.asg false 5 (.ite (.cmp .eq (.var 4) (.int 0)) (.idx (.var 2) (.int 0)) (.idx (.var 2) (.neg (.int 1))))) (.cons (.rem 2 (.var 5)) (.cons (.asg false 3 (.bin .add (.lst (.cons (.var 5) .nil)) (.var 3))) .nil)))) (row.map fun k : Nat => D.int k))
      [.sh (rk .ol ax), .sh (rk .ol row), .ow (ax.map fun k : Nat => D.int k), .sh (.lst .nu []), x4, x5] Q X := by
  have hax : on ax (List.range' 0 n) = ax := by
    apply List.ext_getElem
    · simp [on, ha.len]
    · intro i h1 h2
      simp [on, List.getD, List.getElem?_eq_getElem h2]
  refine wp_forL (fun k : Nat => D.int k) (fun rem δ => ∃ pre x4 x5, row = pre ++ rem ∧ δ = [.sh (rk .ol ax), .sh (rk .ol row), .ow ((on ax (List.range' (lfA 0 pre) (n - pre.length))).map fun k : Nat => D.int k), .sh (.lst .nu ((on ax (tkI 0 n pre).reverse).map fun k : Nat => D.int k)), x4, x5]) row _ ⟨[], x4, x5, rfl, by simp only [lfA, tkI, List.length_nil, Nat.sub_zero, hax]; rfl⟩ ?_ ?_
  · rintro b rem δ ⟨pre, x4, x5, e, rfl⟩
    have hb : b < 2 := hr b (by rw [e]; simp)
    have hpl : pre.length + 1 + rem.length = row.length := by rw [e]; simp; omega
    have hlf := lfA_le pre 0
    have hperm := tk_perm 0 n pre (by omega)
    have hmn : lfA 0 pre + (n - pre.length) ≤ n := by
      by_cases c : n - pre.length = 0
      · omega
      · have : lfA 0 pre + (n - pre.length) - 1 ∈ List.range' 0 n := hperm.mem_iff.mp (List.mem_append_left _ (by rw [List.mem_range'_1]; omega))
        rw [List.mem_range'_1] at this; omega
    obtain ⟨m, hm⟩ : ∃ m, n - pre.length = m + 1 := ⟨n - pre.length - 1, by omega⟩
    refine Exists.elim (end_step ha (a := lfA 0 pre) (m := m) hb (by omega)) fun x H => ?_
    have h1 := H.1
    have h2 := H.2.1
    have h3 := H.2.2.1
    have h4 := H.2.2.2
    have h5 := mem_nats h2
    have h6 := erase_nats (on ax (List.range' (lfA 0 pre) (m + 1))) x
    rw [h4] at h6
    have lt : (on ax (tkI 0 n pre).reverse).length = pre.length := by rw [on_len, List.length_reverse, tkI_len]
    have ll : 1 + (on ax (tkI 0 n pre).reverse).length ≤ lim := limk (by omega)
    have hne : on ax (List.range' (lfA 0 pre) (m + 1)) ≠ [] := fun z => by rw [z] at h2; cases h2
    have hget : L2.atI ((on ax (List.range' (lfA 0 pre) (m + 1))).map fun k : Nat => D.int k) (if b = 0 then 0 else -1) = some (.int (x : Nat)) := by
      by_cases c : b = 0
      · rw [if_pos c] at h1 ⊢
        rw [atI_lit, List.getElem?_map, h1]; rfl
      · rw [if_neg c] at h1 ⊢
        rw [atI_m1 (by simpa using hne), List.getLast?_map, h1]; rfl
    have fin : on ax (List.range' (lfA 0 (pre ++ [b])) (n - (pre ++ [b]).length)) = on ax (List.range' (if b = 0 then lfA 0 pre + 1 else lfA 0 pre) m) := by
      rw [lfA_snoc, List.length_append, List.length_singleton, show n - (pre.length + 1) = m by omega]
    have fin2 : on ax (tkI 0 n (pre ++ [b])).reverse = x :: on ax (tkI 0 n pre).reverse := by
      rw [tkI_snoc, List.reverse_append, h3]
      unfold on
      rw [List.map_append]
      simp only [List.reverse_singleton, List.map_cons, List.map_nil, List.singleton_append, List.cons.injEq, and_true]
      by_cases c : b = 0
      · simp [c]
      · simp only [if_neg c]; congr 1; omega
    rw [hm]
    generalize hS : on ax (List.range' (lfA 0 pre) (m + 1)) = S at *
    generalize on ax (tkI 0 n pre).reverse = T at *
    by_cases c : b = 0
    · rw [if_pos c] at h1
      simp [c, h1, h5, h6, ll]
      exact ⟨pre ++ [b], by rw [e, app_one], by rw [fin, if_pos c], by rw [fin2]; simp⟩
    · rw [if_neg c] at hget
      simp [c, hget, h5, h6, ll]
      exact ⟨pre ++ [b], by rw [e, app_one], by rw [fin, if_neg c], by rw [fin2]; simp⟩
  · rintro δ ⟨pre, x4, x5, e, rfl⟩
    rw [List.append_nil] at e
    subst e
    exact hQ x4 x5
end Pg
set_option linter.all false
set_option maxRecDepth 100000
set_option maxHeartbeats 1000000
set_option Elab.async false
namespace Rv
open Rf
theorem deps_take (l : List Nat) (k : Nat) : D.deps ((l.map fun k : Nat => D.int k).take k) ≤ 49 := by
  rw [← List.map_take, deps_nats]; omega
theorem eqs_take (l ys : List Nat) (k : Nat) : eqs ((l.map fun k : Nat => D.int k).take k) (ys.map fun k : Nat => D.int k) = decide (l.take k = ys) := by
  rw [← List.map_take, eqs_nats]
theorem deps_drop (l : List Nat) (k : Nat) : D.deps ((l.map fun k : Nat => D.int k).drop k) ≤ 49 := by
  rw [← List.map_drop, deps_nats]; omega
theorem eqs_drop (l ys : List Nat) (k : Nat) : eqs ((l.map fun k : Nat => D.int k).drop k) (ys.map fun k : Nat => D.int k) = decide (l.drop k = ys) := by
  rw [← List.map_drop, eqs_nats]
def leL (a b : List Nat) : Bool := PySem.W.dataLe false D.py (D.lst .nu (a.map fun k : Nat => D.int k)) (D.lst .nu (b.map fun k : Nat => D.int k))
def srt (l : List (List Nat)) : List (List Nat) := l.mergeSort leL
theorem srt_perm (l : List (List Nat)) : (srt l).Perm l := List.mergeSort_perm l _
theorem py_lst (f : Lb) (l : List D) : D.py (.lst f l) = .list (D.pys l) := by simp only [D.py]
theorem alikeAll_ints : ∀ a b : List Nat, PySem.W.alikeAll (D.pys (a.map fun k : Nat => D.int k)) (D.pys (b.map fun k : Nat => D.int k)) = true
  | [], b => by cases b <;> simp [D.pys, PySem.W.alikeAll]
  | x :: a, [] => by simp [D.pys, PySem.W.alikeAll]
  | x :: a, y :: b => by
    simp only [List.map_cons, D.pys, PySem.W.alikeAll, alikeAll_ints a b, D.py, PySem.W.alike]; rfl
theorem alike_lists (f : Lb) (l : List (List Nat)) : D.alike (l.map fun r => D.lst f (r.map fun k : Nat => D.int k)) = true := by
  unfold D.alike
  have h := deps_natss f l
  simp only [Bool.and_eq_true, List.all_eq_true, List.mem_map, decide_eq_true_eq]
  refine ⟨⟨?_, ?_⟩, by omega⟩
  · rintro x ⟨a, _, rfl⟩ y ⟨b, _, rfl⟩
    rw [py_lst, py_lst]
    simp only [PySem.W.alike, alikeAll_ints]
  · rintro x ⟨a, _, rfl⟩; rfl
theorem sortk_lists (f : Lb) (l : List (List Nat)) : D.sortk (l.map fun r => D.lst f (r.map fun k : Nat => D.int k)) = true := by
  unfold D.sortk
  rw [Bool.or_eq_true]
  refine .inr ?_
  rw [List.all_eq_true]
  intro x hx
  obtain ⟨a, _, rfl⟩ := List.mem_map.mp hx
  rfl
theorem sorted_lists (f : Lb) (l : List (List Nat)) : Bi.run .sorted [.lst f (l.map fun r => D.lst .nu (r.map fun k : Nat => D.int k))] = some (.new ((srt l).map fun r => D.lst .nu (r.map fun k : Nat => D.int k))) := by
  rw [bi_sorted', alike_lists, sortk_lists]
  simp only [Bool.and_self, if_true, Option.some.injEq, OR.new.injEq]
  unfold sortD srt
  rw [List.map_mergeSort (s := PySem.W.dataLe false D.py)]
  intro a _ b _; rfl
end Rv
namespace Pg
open Rf Rv
def bye (n : Nat) (ax row : List Nat) : List Nat := on ax (byI n row)
theorem byI_lt {n : Nat} {row : List Nat} (h : row.length ≤ n) : ∀ i ∈ byI n row, i < n := fun i hi => (byI_ord h).mem.mp hi
theorem bye_pkd {n : Nat} {ax row : List Nat} (ha : Ord n ax) (h : row.length < n) : Pkd n ax (bye n ax row) := by
  refine ⟨on_ord ha (byI_ord (by omega)), ?_⟩
  rw [pk_P]
  unfold bye
  rw [on_places ha (byI_lt (by omega))]
  exact byI_pk h
theorem s_left_by (k : Nat) (hk : 1 ≤ k) (n : Nat) (ax row : List Nat) (ha : Ord n ax) (hn : n ≤ 1000) (hr : ∀ b ∈ row, b < 2) (hl : row.length < n) : depth prog k I_left_by [.sh (rk .ol ax), .sh (rk .ol row)] = .ret (.fz (.tup [.lst .nu ((on ax (List.range' (lfA 0 row) (n - row.length))).map fun k : Nat => D.int k), .lst .nu ((on ax (tkI 0 n row).reverse).map fun k : Nat => D.int k)])) [.un, .un] := by
  obtain ⟨k, rfl⟩ := Nat.exists_eq_add_of_le hk; rw [Nat.add_comm]
  refine depth_wp G_left_by rfl ?_
  simp
  refine ends_loop ha hn hr hl _ _ fun x4 x5 => ?_
  simp
def lst (n : Nat) (ax : List Nat) : List (List Nat) := srt ((rowsL (n - 1)).map fun r => bye n ax r)
theorem lst_mem {n : Nat} {ax r : List Nat} : r ∈ lst n ax ↔ ∃ row, Lets (n - 1) row ∧ bye n ax row = r := by
  unfold lst
  rw [(srt_perm _).mem_iff, List.mem_map]
  simp only [rowsL_mem]
theorem lst_len {n : Nat} (h : n ≤ 7) (ax : List Nat) : (lst n ax).length ≤ 64 := by
  unfold lst
  rw [(srt_perm _).length_eq, List.length_map, rowsL_len]
  exact Nat.le_trans (Nat.pow_le_pow_right (by decide) (show n - 1 ≤ 6 by omega)) (by decide)
theorem lst_head {n : Nat} {ax r : List Nat} (ha : Ord n ax) (h1 : 1 ≤ n) (hr : r ∈ lst n ax) : Ord n r := by
  obtain ⟨row, h, rfl⟩ := lst_mem.mp hr
  exact (bye_pkd ha (by have := h.1; omega)).1
end Pg
set_option linter.all false
set_option maxRecDepth 100000
set_option maxHeartbeats 1000000
set_option Elab.async false
namespace Pg
open Rf Rv
theorem s_are_letters (k : Nat) (hk : 4 ≤ k) (m : Nat) (row : List Nat) (h : Lets m row) : depth prog k I_are_letters [.sh (rk .ol row), .sh (.int m)] = .ret (.fz (.bl true)) [.un, .un] := by
  obtain ⟨k, rfl⟩ := Nat.exists_eq_add_of_le hk; rw [Nat.add_comm]
  refine depth_wp G_are_letters rfl ?_
  simp [h.1]
  refine wp_compF _ (fun _ => false) (fun k : Nat => D.int k) row wokN (fun a ha => ?_) ?_
  · have q := s_is_below (k + 3) (by omega) a 2
    simp at q
    simp [q, h.2 a ha]
  · simp
theorem s_check_answers (k : Nat) (hk : 7 ≤ k) (n m : Nat) (ax row : List Nat) (ha : Ord n ax) (h1 : 1 ≤ n) (h7 : n ≤ 7) (hr : Lets m row) (hm : m ≤ n - 1) : depth prog k I_check_answers [.sh (rk .ol ax), .sh (rk .ol row)] = .ret (.fz .non) [.un, .un] := by
  obtain ⟨k, rfl⟩ := Nat.exists_eq_add_of_le hk; rw [Nat.add_comm]
  have q1 := s_check_line (k + 6) (by omega) n ax ha h1 h7
  have q2 := s_are_letters (k + 6) (by omega) m row hr
  have e : ¬ ((n : Int) - 1 < (m : Int)) := by omega
  refine depth_wp G_check_answers rfl ?_
  simp [q1, ha.len, hr.1, e, q2]
theorem s_told_so_far (k : Nat) (hk : 8 ≤ k) (n : Nat) (ax row : List Nat) (ha : Ord n ax) (h1 : 1 ≤ n) (h7 : n ≤ 7) (hr : Lets (n - 1) row) : depth prog k I_told_so_far [.sh (rk .ol ax), .sh (rk .ol row)] = .ret (.nw ((bye n ax row).map fun k : Nat => D.int k)) [.un, .un] := by
  obtain ⟨k, rfl⟩ := Nat.exists_eq_add_of_le hk; rw [Nat.add_comm]
  have hrl := hr.1
  have q1 := s_check_answers (k + 7) (by omega) n (n - 1) ax row ha h1 h7 hr (Nat.le_refl _)
  have q2 := s_left_by (k + 7) (by omega) n ax row ha (by omega) hr.2 (by omega)
  have lA : (on ax (List.range' (lfA 0 row) (n - row.length))).length = 1 := by rw [on_len, List.length_range']; omega
  have lB : (on ax (tkI 0 n row).reverse).length = n - 1 := by rw [on_len, List.length_reverse, tkI_len]; omega
  have l1 : 1 + (n - 1) ≤ lim := limk (by omega)
  have e : on ax (List.range' (lfA 0 row) (n - row.length)) ++ on ax (tkI 0 n row).reverse = bye n ax row := by
    unfold bye byI; rw [on_append]
  rw [← e]
  generalize on ax (List.range' (lfA 0 row) (n - row.length)) = A at *
  generalize on ax (tkI 0 n row).reverse = B at *
  refine depth_wp G_told_so_far rfl ?_
  simp [q1, q2, lA, lB, l1]
theorem s_open_rankings (k : Nat) (hk : 8 ≤ k) (n m : Nat) (ax row : List Nat) (ha : Ord n ax) (h1 : 1 ≤ n) (h7 : n ≤ 7) (hr : Lets m row) (hm : m ≤ n - 1) : depth prog k I_open_rankings [.sh (rk .ol ax), .sh (rk .ol row)] = .ret (.fz (.int ((2 ^ (n - 1 - m) : Nat) : Int))) [.un, .un] := by
  obtain ⟨k, rfl⟩ := Nat.exists_eq_add_of_le hk; rw [Nat.add_comm]
  have q1 := s_check_answers (k + 7) (by omega) n m ax row ha h1 h7 hr hm
  have e : (n : Int) - 1 - (m : Int) = ((n - 1 - m : Nat) : Int) := by omega
  have sm : small ((n : Int) - 1 - (m : Int)) = true := small_k (by omega) (by omega)
  have rg : ranged 0 ((n : Int) - 1 - (m : Int)) = (List.range (n - 1 - m)).map fun k : Nat => D.int k := by rw [e, ranged_nat]
  refine depth_wp G_open_rankings rfl ?_
  simp [q1, ha.len, hr.1, sm, rg]
  refine wp_forL (fun k : Nat => D.int k) (fun rem δ => ∃ t x3, t + rem.length = n - 1 - m ∧ δ = [.sh (rk .ol ax), .sh (rk .ol row), .sh (.int ((2 ^ t : Nat) : Int)), x3]) (List.range (n - 1 - m)) _ ⟨0, _, by simp, rfl⟩ ?_ ?_
  · rintro c rem δ ⟨t, x3, ht, rfl⟩
    have hm2 : mulOk 2 ((2 ^ t : Nat) : Int) = true := mulOk_l _ (by decide)
    simp at ht
    simp [hm2]
    exact ⟨t + 1, by omega, by rw [Int.pow_succ]; omega⟩
  · rintro δ ⟨t, x3, ht, rfl⟩
    simp at ht
    simp [ht]
/-- the letters of a ranking that letters tell -/
theorem s_ends_in (k : Nat) (hk : 1 ≤ k) (n : Nat) (ax row : List Nat) (ha : Ord n ax) (h1 : 1 ≤ n) (hn : n ≤ 1000) (hr : Lets (n - 1) row) : depth prog k I_ends_in [.sh (rk .ol ax), .sh (rk .ol (bye n ax row))] = .ret (.nw (row.map fun k : Nat => D.int k)) [.un, .un] := by
  obtain ⟨k, rfl⟩ := Nat.exists_eq_add_of_le hk; rw [Nat.add_comm]
  obtain ⟨hrl, hr2⟩ := hr
  have hd : (bye n ax row).tail.reverse = on ax (tkI 0 n row) := by
    have := byI_drop (n := n) (row := row) (by omega) (k := row.length) (Nat.le_refl _)
    rw [show n - row.length = 1 by omega, List.take_length] at this
    rw [← List.drop_one]
    unfold bye on
    rw [← List.map_drop, this, List.map_reverse, List.reverse_reverse]
  have hax : on ax (List.range' 0 n) = ax := by
    apply List.ext_getElem
    · simp [on, ha.len]
    · intro i h1 h2
      simp [on, List.getD, List.getElem?_eq_getElem h2]
  have hd2 : ((bye n ax row).map fun k : Nat => D.int k).tail.reverse = (on ax (tkI 0 n row)).map fun k : Nat => D.int k := by
    rw [← hd, ← List.map_tail, ← List.map_reverse]
  refine depth_wp G_ends_in rfl ?_
  simp
  rw [hd2]
  refine wp_forL (fun k : Nat => D.int k) (fun rem δ => ∃ pre suf x4, row = pre ++ suf ∧ rem = on ax (tkI (lfA 0 pre) (n - pre.length) suf) ∧ δ = [.sh (rk .ol ax), .sh (rk .ol (bye n ax row)), .ow ((on ax (List.range' (lfA 0 pre) (n - pre.length))).map fun k : Nat => D.int k), .ow (pre.map fun k : Nat => D.int k), x4]) (on ax (tkI 0 n row)) _ ⟨[], row, _, rfl, by simp [lfA], by simp only [lfA, List.length_nil, Nat.sub_zero, hax]; rfl⟩ ?_ ?_
  · rintro x rem δ ⟨pre, suf, x4, e, er, rfl⟩
    cases suf with
    | nil => simp [tkI, on] at er
    | cons b suf =>
      have hb : b < 2 := hr2 b (by rw [e]; simp)
      have hpl : pre.length + 1 + suf.length = row.length := by rw [e]; simp; omega
      have hperm := tk_perm 0 n pre (by omega)
      have hmn : lfA 0 pre + (n - pre.length) ≤ n := by
        have : lfA 0 pre + (n - pre.length) - 1 ∈ List.range' 0 n := hperm.mem_iff.mp (List.mem_append_left _ (by rw [List.mem_range'_1]; omega))
        rw [List.mem_range'_1] at this; omega
      have hm : n - pre.length = (n - pre.length - 2) + 1 + 1 := by omega
      generalize n - pre.length - 2 = m at *
      refine Exists.elim (end_step ha (a := lfA 0 pre) (m := m + 1) hb (by omega)) fun y H => ?_
      have g1 := H.1
      have g2 := H.2.1
      have g3 := H.2.2.1
      have g4 := H.2.2.2
      have hx : x = y ∧ rem = on ax (tkI (if b = 0 then lfA 0 pre + 1 else lfA 0 pre) (m + 1) suf) := by
        rw [hm] at er
        unfold tkI on at er
        by_cases c : b = 0
        · simp only [if_pos c, List.map_cons, List.cons.injEq] at er
          rw [if_pos c] at g3
          refine ⟨by rw [er.1, g3], ?_⟩
          rw [er.2, if_pos c]; rfl
        · simp only [if_neg c, List.map_cons, List.cons.injEq] at er
          rw [if_neg c] at g3
          refine ⟨by rw [er.1, g3]; congr 1, ?_⟩
          rw [er.2, if_neg c]; rfl
      have hxy := hx.1
      subst hxy
      have g5 := mem_nats g2
      have g6 := erase_nats (on ax (List.range' (lfA 0 pre) (m + 1 + 1))) x
      rw [g4] at g6
      have h0 : (on ax (List.range' (lfA 0 pre) (m + 1 + 1)))[0]? = some (ax.getD (lfA 0 pre) 0) := by rw [on_cons]; rfl
      have hne : ax.getD (lfA 0 pre) 0 = x ↔ b = 0 := by
        rw [g3]
        constructor
        · intro z
          by_cases c : b = 0
          · exact c
          · rw [if_neg c] at z
            have := getD_inj ha (by omega) (by omega) z
            omega
        · intro c; rw [if_pos c]
      have lp := limk' (n := pre.length) (by omega)
      have fin : on ax (List.range' (lfA 0 (pre ++ [b])) (n - (pre ++ [b]).length)) = on ax (List.range' (if b = 0 then lfA 0 pre + 1 else lfA 0 pre) (m + 1)) := by
        rw [lfA_snoc, List.length_append, List.length_singleton, show n - (pre.length + 1) = m + 1 by omega]
      have fin2 : rem = on ax (tkI (lfA 0 (pre ++ [b])) (n - (pre ++ [b]).length) suf) := by
        rw [hx.2, lfA_snoc, List.length_append, List.length_singleton, show n - (pre.length + 1) = m + 1 by omega]
      rw [hm]
      generalize hS : on ax (List.range' (lfA 0 pre) (m + 1 + 1)) = S at *
      generalize ax.getD (lfA 0 pre) 0 = z at *
      by_cases c : b = 0
      · have hz := hne.mpr c
        simp [h0, hz, lp, g5, g6]
        exact ⟨pre ++ [b], suf, by rw [e, app_one], fin2, by rw [fin], by simp [c]⟩
      · have hz : ¬ z = x := fun q => c (hne.mp q)
        have hb1 : b = 1 := by omega
        simp [h0, hz, lp, g5, g6]
        exact ⟨pre ++ [b], suf, by rw [e, app_one], fin2, by rw [fin], by simp [hb1]⟩
  · rintro δ ⟨pre, suf, x4, e, er, rfl⟩
    cases suf with
    | nil =>
      rw [List.append_nil] at e
      subst e
      simp
    | cons b suf =>
      unfold tkI on at er
      split at er <;> simp at er
end Pg
set_option linter.all false
set_option maxRecDepth 100000
set_option maxHeartbeats 1000000
set_option Elab.async false
set_option pp.maxSteps 800
namespace Rv
open Rf
theorem depth_wpP {P : List Fn} {k f np ns : Nat} {nas : List Nat} {body : Sts} {as : List SV} {R : FR → Prop} (hf : P[f]? = some ⟨np, ns, nas, body⟩) (hl : as.length = np) (h : wp (execs (depth P k) (as ++ List.replicate (ns - np) .un) body) (as ++ List.replicate (ns - np) .un) (fun o e => R (back nas as (.ok o e))) (fun c d e => R (back nas as (.exn c d e)))) : R (depth P (k + 1) f as) := by
  have h2 : ∃ r, R r ∧ wp (execs (depth P k) (as ++ List.replicate (ns - np) .un) body) (as ++ List.replicate (ns - np) .un) (fun o e => back nas as (.ok o e) = r) (fun c d e => back nas as (.exn c d e) = r) := by
    unfold wp at h ⊢
    cases q : execs (depth P k) (as ++ List.replicate (ns - np) .un) body (as ++ List.replicate (ns - np) .un) with
    | ok a δ' => rw [q] at h; exact ⟨_, h, rfl⟩
    | exn c d δ' => rw [q] at h; exact ⟨_, h, rfl⟩
    | bad n => rw [q] at h; exact h.elim
  obtain ⟨r, hr, hw⟩ := h2
  rw [depth_wp hf hl hw]
  exact hr
end Rv
namespace Pg
open Rf Rv
theorem on_range {n : Nat} {ax : List Nat} (ha : Ord n ax) : on ax (List.range n) = ax := by
  apply List.ext_getElem
  · simp [on, ha.len]
  · intro i h1 h2
    simp [on, List.getD, List.getElem?_eq_getElem h2]
theorem s_rndE (k : Nat) (hk : 2 ≤ k) (g : Gen) (n : Nat) {m : Nat} (hg : g.ok (m + 1)) (h0 : 0 < n) (h1 : n < 2 ^ 29) : depth prog k I__law_random [.ow g.ds, .sh (.int n)] = .ret (.fz (.int ((rndV g n).toNat : Nat))) [.ow (rndG g n).ds, .un] ∧ (rndV g n).toNat < n ∧ (rndG g n).ok m := by
  have hp : (0 : Int) < n := by omega
  have h2 := rndV_lo g hp
  have h3 := rndV_hi g hp
  refine ⟨?_, by omega, rndG_ok hg hp⟩
  rw [s_random k hk g n hg hp (by omega)]
  rw [Int.toNat_of_nonneg h2]
theorem ord_drawn (g : Gen) (n : Nat) : Ord n (ordR g (List.range n)) := ordR_perm g _
theorem s_ordE (k : Nat) (hk : 3 ≤ k) (g : Gen) (n : Nat) {m : Nat} (hg : g.ok (n + m)) (h1 : n < 1000) (f : Lb) : depth prog k I__law_drawn_order [.ow g.ds, .sh (.lst f ((List.range n).map fun k : Nat => D.int k))] = .ret (.nw ((ordR g (List.range n)).map fun k : Nat => D.int k)) [.ow (ordG g (List.range n)).ds, .un] := by
  have := s_drawn k hk g ((List.range n).map fun k : Nat => D.int k) (m := m) (by rw [List.length_map, List.length_range]; exact hg) (by simpa using h1) (fun d hd => by
    obtain ⟨i, _, rfl⟩ := List.mem_map.mp hd; simp) f
  rw [this, ordR_map, ordG_map]
theorem ordG_okN {m n : Nat} {g : Gen} (h : g.ok (n + m)) : (ordG g (List.range n)).ok m := ordG_ok (by rwa [List.length_range])
theorem s_axis (k : Nat) (hk : 4 ≤ k) (g : Gen) {m : Nat} (hg : g.ok (m + 8)) : ∃ n ax g', 1 ≤ n ∧ n ≤ 7 ∧ Ord n ax ∧ Gen.ok g' m ∧ depth prog k I__law_axis [.ow g.ds, .sh (.int 7)] = .ret (.nw (ax.map fun k : Nat => D.int k)) [.ow g'.ds, .un] := by
  obtain ⟨k, rfl⟩ := Nat.exists_eq_add_of_le hk; rw [Nat.add_comm 4 k]
  obtain ⟨q1, hj, hg1⟩ := s_rndE (k + 3) (by omega) g 7 (m := m + 7) hg (by omega) (by omega)
  generalize (rndV g (7 : Nat)).toNat = j at *
  generalize rndG g (7 : Nat) = g1 at *
  have hg2 : g1.ok (1 + j + m) := hg1.mono (by omega)
  have q2 := s_ordE (k + 3) (by omega) g1 (1 + j) hg2 (by omega) .nu
  have q3 := s_ordE (k + 3) (by omega) g1 (1 + j) hg2 (by omega) .ol
  have hr := ord_drawn g1 (1 + j)
  have hg3 := ordG_okN hg2
  generalize ordR g1 (List.range (1 + j)) = ax at *
  generalize ordG g1 (List.range (1 + j)) = g2 at *
  refine ⟨1 + j, ax, g2, by omega, by omega, hr, hg3, ?_⟩
  have e : (1 : Int) + (j : Int) = ((1 + j : Nat) : Int) := by omega
  have sj : small (1 + (j : Int)) = true := small_k (by omega) (by omega)
  have rg : ranged 0 (1 + (j : Int)) = (List.range (1 + j)).map fun k : Nat => D.int k := by rw [e, ranged_nat]
  have l1 := limk (n := 1 + j) (by omega)
  simp at q1
  refine depth_wp G__law_axis rfl ?_
  simp [q1, sj, rg, l1, q2, q3]
theorem s_law_by_ends (k : Nat) (hk : 1 ≤ k) (n : Nat) (ax row : List Nat) (ha : Ord n ax) (hn : n ≤ 1000) (hr : ∀ b ∈ row, b < 2) (hl : row.length < n) : depth prog k I__law_by_ends [.sh (rk .ol ax), .sh (rk .ol row)] = .ret (.nw ((bye n ax row).map fun k : Nat => D.int k)) [.un, .un] := by
  obtain ⟨k, rfl⟩ := Nat.exists_eq_add_of_le hk; rw [Nat.add_comm 1 k]
  have hax : on ax (List.range' 0 n) = ax := by
    have := on_range ha
    rwa [List.range_eq_range'] at this
  refine depth_wp G__law_by_ends rfl ?_
  simp
  refine wp_forL (fun k : Nat => D.int k) (fun rem δ => ∃ pre x2 x5, row = pre ++ rem ∧ δ = [.sh (rk .ol ax), .sh (rk .ol row), x2, .sh (.lst .nu ((on ax (List.range' (lfA 0 pre) (n - pre.length))).map fun k : Nat => D.int k)), .sh (.lst .nu ((on ax (tkI 0 n pre).reverse).map fun k : Nat => D.int k)), x5, .un]) row _ ⟨[], _, _, rfl, by simp only [lfA, tkI, List.length_nil, Nat.sub_zero, hax]; rfl⟩ ?_ ?_
  · rintro b rem δ ⟨pre, x2, x5, e, rfl⟩
    have hb : b < 2 := hr b (by rw [e]; simp)
    have hpl : pre.length + 1 + rem.length = row.length := by rw [e]; simp; omega
    have hlf := lfA_le pre 0
    have hperm := tk_perm 0 n pre (by omega)
    have hmn : lfA 0 pre + (n - pre.length) ≤ n := by
      by_cases c : n - pre.length = 0
      · omega
      · have : lfA 0 pre + (n - pre.length) - 1 ∈ List.range' 0 n := hperm.mem_iff.mp (List.mem_append_left _ (by rw [List.mem_range'_1]; omega))
        rw [List.mem_range'_1] at this; omega
    obtain ⟨m, hm⟩ : ∃ m, n - pre.length = m + 1 := ⟨n - pre.length - 1, by omega⟩
    refine Exists.elim (end_step ha (a := lfA 0 pre) (m := m) hb (by omega)) fun x H => ?_
    have h1 := H.1
    have h2 := H.2.1
    have h3 := H.2.2.1
    have h4 := H.2.2.2
    have hnd : (on ax (List.range' (lfA 0 pre) (m + 1))).Nodup := by
      unfold on
      rw [List.Nodup, List.pairwise_map]
      refine List.Pairwise.imp_of_mem ?_ (List.nodup_range' (s := lfA 0 pre) (n := m + 1))
      intro a b h1 h2 h3 h4
      rw [List.mem_range'_1] at h1 h2
      exact h3 (getD_inj ha (by omega) (by omega) h4)
    have h6 : (on ax (List.range' (lfA 0 pre) (m + 1))).filter (fun a => !decide (a = x)) = on ax (List.range' (if b = 0 then lfA 0 pre + 1 else lfA 0 pre) m) := by
      rw [← h4, hnd.erase_eq_filter]
      apply List.filter_congr
      intro a _
      by_cases c : a = x <;> simp [c]
    have lt : (on ax (tkI 0 n pre).reverse).length = pre.length := by rw [on_len, List.length_reverse, tkI_len]
    have ll : 1 + (on ax (tkI 0 n pre).reverse).length ≤ lim := limk (by omega)
    have ll2 : (on ax (List.range' (if b = 0 then lfA 0 pre + 1 else lfA 0 pre) m)).length ≤ lim := limk (by rw [on_len, List.length_range']; omega)
    have hne : on ax (List.range' (lfA 0 pre) (m + 1)) ≠ [] := fun z => by rw [z] at h2; cases h2
    have hget : L2.atI ((on ax (List.range' (lfA 0 pre) (m + 1))).map fun k : Nat => D.int k) (if b = 0 then 0 else -1) = some (.int (x : Nat)) := by
      by_cases c : b = 0
      · rw [if_pos c] at h1 ⊢
        rw [atI_lit, List.getElem?_map, h1]; rfl
      · rw [if_neg c] at h1 ⊢
        rw [atI_m1 (by simpa using hne), List.getLast?_map, h1]; rfl
    have fin : on ax (List.range' (lfA 0 (pre ++ [b])) (n - (pre ++ [b]).length)) = on ax (List.range' (if b = 0 then lfA 0 pre + 1 else lfA 0 pre) m) := by
      rw [lfA_snoc, List.length_append, List.length_singleton, show n - (pre.length + 1) = m by omega]
    have fin2 : on ax (tkI 0 n (pre ++ [b])).reverse = x :: on ax (tkI 0 n pre).reverse := by
      rw [tkI_snoc, List.reverse_append, h3]
      unfold on
      rw [List.map_append]
      simp only [List.reverse_singleton, List.map_cons, List.map_nil, List.singleton_append, List.cons.injEq, and_true]
      by_cases c : b = 0
      · simp [c]
      · simp only [if_neg c]; congr 1; omega
    have hres : row = (pre ++ [b]) ++ rem := by rw [e]; simp
    clear h1 h3 h4 hnd hlf hperm hmn
    rw [hm]
    generalize hS : on ax (List.range' (lfA 0 pre) (m + 1)) = S at *
    generalize on ax (tkI 0 n pre).reverse = T at *
    generalize on ax (List.range' (if b = 0 then lfA 0 pre + 1 else lfA 0 pre) m) = S2 at *
    have hneg : -(b : Int) = if b = 0 then 0 else -1 := by split <;> omega
    simp [hneg, hget, ll]
    refine wp_compF (fun k : Nat => D.int k) (fun a => !decide (a = x)) (fun k : Nat => D.int k) S wokN (fun a haa => ?_) ?_
    · by_cases c : a = x
      · simp [c]
      · simp [c]
    · rw [h6]
      simp [ll2]
      exact ⟨pre ++ [b], hres, by rw [fin], by rw [fin2]; simp⟩
  · rintro δ ⟨pre, x2, x5, e, rfl⟩
    rw [List.append_nil] at e
    subst e
    have l1 : (on ax (List.range' (lfA 0 row) (n - row.length))).length + (on ax (tkI 0 n row).reverse).length ≤ lim := limk (by rw [on_len, on_len, List.length_reverse, tkI_len, List.length_range']; omega)
    generalize hA : on ax (List.range' (lfA 0 row) (n - row.length)) = A at *
    generalize hB : on ax (tkI 0 n row).reverse = B at *
    simp [l1]
    unfold bye byI
    rw [on_append, hA, hB]; simp
def PkD (n m : Nat) (ax : List Nat) (x : FR) : Prop := ∃ row g', Lets (n - 1) row ∧ Gen.ok g' m ∧ x = .ret (.nw ((bye n ax row).map fun k : Nat => D.int k)) [.ow g'.ds, .un]
theorem s_peaked_drawn (k : Nat) (hk : 3 ≤ k) (g : Gen) (n m : Nat) (ax : List Nat) (ha : Ord n ax) (h1 : 1 ≤ n) (h7 : n ≤ 7) (hg : g.ok (m + n)) : PkD n m ax (depth prog k I__law_peaked_drawn [.ow g.ds, .sh (rk .ol ax)]) := by
  obtain ⟨k, rfl⟩ := Nat.exists_eq_add_of_le hk; rw [Nat.add_comm 3 k]
  have hal := ha.len
  have e : (n : Int) - 1 = ((n - 1 : Nat) : Int) := by omega
  have sj : small ((n : Int) - 1) = true := small_k (by omega) (by omega)
  have rg : ranged 0 ((n : Int) - 1) = (List.range (n - 1)).map fun k : Nat => D.int k := by rw [e, ranged_nat]
  refine depth_wpP G__law_peaked_drawn rfl ?_
  simp [hal, sj, rg]
  refine wp_compI (fun k : Nat => D.int k) (fun rem acc δ => ∃ g' row, List.length row + rem.length = n - 1 ∧ (∀ b ∈ row, b < 2) ∧ Gen.ok g' (m + rem.length) ∧ acc = row.map (fun k : Nat => D.int k) ∧ δ = [.ow g'.ds, .sh (rk .ol ax), .un]) (List.range (n - 1)) [] _ ⟨g, [], by simp, by simp, hg.mono (by simp), rfl, rfl⟩ ?_ ?_
  · rintro a rem acc δ ⟨g', row, hl, ho, hg', rfl, rfl⟩
    rw [List.length_cons] at hl hg'
    have H := s_rndE (k + 2) (by omega) g' 2 (m := m + rem.length) hg' (by omega) (by omega)
    have q := H.1
    have hj := H.2.1
    have hg2 := H.2.2
    clear H
    generalize (rndV g' (2 : Nat)).toNat = j at *
    generalize rndG g' (2 : Nat) = g2 at *
    simp at q
    simp [q]
    refine ⟨g2, row ++ [j], by simp; omega, ?_, hg2, by simp, rfl⟩
    intro s hs
    rcases List.mem_append.mp hs with z | z
    · exact ho s z
    · rw [List.mem_singleton.mp z]; exact hj
  · rintro acc' δ ⟨g', row, hl, ho, hg', e, rfl⟩
    simp at hl hg' e
    have hl2 := limk (n := row.length) (by omega)
    have q := s_law_by_ends (k + 2) (by omega) n ax row ha (by omega) ho (by omega)
    simp [e, hl2, q]
    exact ⟨row, g', ⟨hl, ho⟩, hg', rfl⟩
end Pg
set_option linter.all false
set_option maxRecDepth 100000
set_option maxHeartbeats 1000000
set_option Elab.async false
set_option pp.maxSteps 800
namespace Pg
open Rf Rv
end Pg
set_option linter.all false
set_option maxRecDepth 100000
set_option maxHeartbeats 1000000
set_option Elab.async false
namespace Pg
open Rf Rv
theorem s_answers_of (k : Nat) (hk : 8 ≤ k) (n : Nat) (ax row : List Nat) (ha : Ord n ax) (h1 : 1 ≤ n) (h7 : n ≤ 7) (hr : Lets (n - 1) row) : depth prog k I_answers_of [.sh (rk .ol ax), .sh (rk .ol (bye n ax row))] = .ret (.nw (row.map fun k : Nat => D.int k)) [.un, .un] := by
  obtain ⟨k, rfl⟩ := Nat.exists_eq_add_of_le hk; rw [Nat.add_comm]
  have q1 := s_check_peaked (k + 7) (by omega) n ax (bye n ax row) ha h1 h7 (bye_pkd ha (by have := hr.1; omega))
  have q2 := s_ends_in (k + 7) (by omega) n ax row ha h1 (by omega) hr
  refine depth_wp G_answers_of rfl ?_
  simp [q1, q2]
/-- how many peaked rankings end as one of them does -/
theorem known_count {n : Nat} {ax row : List Nat} (ha : Ord n ax) (h1 : 1 ≤ n) (h7 : n ≤ 7) (hr : Lets (n - 1) row) {m : Nat} (hm : m ≤ n - 1) : ((lst n ax).filter fun r => decide (r.drop (n - m) = (bye n ax row).drop (n - m))).length = 2 ^ (n - 1 - m) := by
  have hp : ((lst n ax).filter fun r => decide (r.drop (n - m) = (bye n ax row).drop (n - m))).length = (((rowsL (n - 1)).map fun r => bye n ax r).filter fun r => decide (r.drop (n - m) = (bye n ax row).drop (n - m))).length := ((srt_perm _).filter _).length_eq
  have hrl := hr.1
  rw [hp, List.filter_map, List.length_map, ← cnt_rows (w := row.take m) (N := n - 1) (k := m) (by omega) hm ⟨by rw [List.length_take]; omega, fun b hb => hr.2 b (List.mem_of_mem_take hb)⟩]
  congr 1
  apply List.filter_congr
  intro u hu
  have hu := rowsL_mem.mp hu
  have hul := hu.1
  simp only [Function.comp]
  rw [decide_eq_decide]
  unfold bye on
  rw [← List.map_drop, ← List.map_drop, byI_drop (by omega) (by omega), byI_drop (by omega) (by omega)]
  constructor
  · intro e
    have e2 : (tkI 0 n (u.take m)) = tkI 0 n (row.take m) := by
      have hb1 : ∀ i ∈ tkI 0 n (u.take m), i < n := fun i hi => by have := tkI_lt _ _ _ (by rw [List.length_take]; omega) i hi; omega
      have hb2 : ∀ i ∈ tkI 0 n (row.take m), i < n := fun i hi => by have := tkI_lt _ _ _ (by rw [List.length_take]; omega) i hi; omega
      rw [List.map_reverse, List.map_reverse] at e
      have e := List.reverse_inj.mp e
      have e3 := congrArg (List.map fun a => ax.idxOf a) e
      have p1 := on_places ha hb1
      have p2 := on_places ha hb2
      unfold on at p1 p2
      rw [p1, p2] at e3
      exact e3
    exact tkI_inj _ _ 0 n (by rw [List.length_take, List.length_take]; omega) (fun b hb => hu.2 b (List.mem_of_mem_take hb)) (fun b hb => hr.2 b (List.mem_of_mem_take hb)) (by rw [List.length_take]; omega) e2
  · intro e; rw [e]
end Pg
set_option linter.all false
set_option maxRecDepth 100000
set_option maxHeartbeats 1000000
set_option Elab.async false
/-! Rf, the value layer: texts of plain data. -/
namespace Rv
open Rf
open PySem (Str PyData)
mutual
/-- None, bools, small numbers, lists and tuples of such -/
def plainD : D → Bool
  | .non => true
  | .bl _ => true
  | .int i => decide (-1 ≤ i) && decide (i < 100)
  | .str x => decide (x = ("0" : Str))
  | .lst _ xs => plainDs xs
  | .tup xs => plainDs xs
  | _ => false
def plainDs : List D → Bool
  | [] => true
  | x :: xs => plainD x && plainDs xs
end
mutual
def wtD : D → Nat
  | .lst _ xs => wtDs xs + 4
  | .tup xs => wtDs xs + 4
  | _ => 8
def wtDs : List D → Nat
  | [] => 0
  | x :: xs => wtD x + 2 + wtDs xs
end
def okS (x : Str) (n : Nat) : Prop := PyData.strOk x = true ∧ x.length ≤ n
theorem okS_app {x y : Str} {n m : Nat} (h : okS x n) (k : okS y m) : okS (x ++ y) (n + m) := by
  refine ⟨?_, by rw [PySem.strLen_append]; have := h.2; have := k.2; omega⟩
  have e : (x ++ y).cps = x.cps ++ y.cps := rfl
  have h1 := h.1
  have k1 := k.1
  unfold PyData.strOk at *
  rw [e, Array.all_append, h1, k1]; rfl
theorem okS_mono {x : Str} {n m : Nat} (h : okS x n) (k : n ≤ m) : okS x m := ⟨h.1, Nat.le_trans h.2 k⟩
inductive OkSs : List Str → Nat → Prop
  | nil : OkSs [] 0
  | cons {t : Str} {ts : List Str} {m w : Nat} : okS t m → OkSs ts w → OkSs (t :: ts) (m + 2 + w)
theorem sep_ok (k : Nat) : okS ((if k > 0 then ", " else "" : String) : Str) 2 := by
  by_cases c : k > 0
  · rw [if_pos c]; exact ⟨by decide +kernel, by decide +kernel⟩
  · rw [if_neg c]; exact ⟨by decide +kernel, by decide +kernel⟩
theorem okS_text {ts : List Str} {w : Nat} (h : OkSs ts w) : ∀ (k : Nat) (acc : Str) (n : Nat), okS acc n → okS (PySem.textFrom k acc ts) (n + w) := by
  induction h with
  | nil => exact fun k acc n h => h
  | @cons t ts m w h1 _ ih => exact fun k acc n h => okS_mono (ih (k + 1) _ _ (okS_app (okS_app h (sep_ok k)) h1)) (by omega)
theorem okS_join {ts : List Str} {w : Nat} (h : OkSs ts w) : okS (Str.join ", " ts) w := by
  induction h with
  | nil => exact ⟨by decide +kernel, by decide +kernel⟩
  | @cons t ts m w h1 h2 ih =>
    cases h2 with
    | nil => exact okS_mono h1 (by omega)
    | @cons t2 ts m2 w2 h3 h4 => exact okS_mono (okS_app (okS_app h1 ⟨by decide +kernel, (by decide +kernel : (((", " : String) : Str)).length ≤ 2)⟩) ih) (by omega)
theorem int_text : ∀ i : Nat, i < 100 → okS (toString (i : Int)) 8 := by
  have h : (List.range 100).all (fun i => PyData.strOk (toString ((i : Nat) : Int)) && decide ((toString ((i : Nat) : Int) : Str).length ≤ 8)) = true := by decide +kernel
  intro i hi
  have := List.all_eq_true.mp h i (List.mem_range.mpr hi)
  obtain ⟨a, b⟩ := Bool.and_eq_true_iff.mp this
  exact ⟨a, of_decide_eq_true b⟩
mutual
theorem plain_ok : ∀ d : D, plainD d = true → d.py.showable = true ∧ okS d.py.shown (wtD d)
  | .non, _ => ⟨rfl, by decide +kernel, by decide +kernel⟩
  | .bl b, _ => ⟨rfl, by cases b <;> decide +kernel, by cases b <;> decide +kernel⟩
  | .int i, h => by
    simp only [plainD, Bool.and_eq_true, decide_eq_true_eq] at h
    by_cases hneg : i = -1
    · subst hneg
      exact ⟨by decide +kernel, by decide +kernel, by decide +kernel⟩
    obtain ⟨n, rfl⟩ := Int.eq_ofNat_of_zero_le (show 0 ≤ i by omega)
    have hn : n < 100 := by omega
    refine ⟨?_, int_text n hn⟩
    have : (n : Int).natAbs.log2 < 1920 := by
      show (n : Int).natAbs.log2 < 1920
      rw [Int.natAbs_natCast]
      by_cases h0 : n = 0
      · subst h0; decide
      · exact (Nat.log2_lt h0).mpr (Nat.lt_of_lt_of_le hn (Nat.le_trans (by decide : 100 ≤ 2 ^ 7) (Nat.pow_le_pow_right (by decide) (by decide))))
    exact decide_eq_true this
  | .lst f xs, h => by
    obtain ⟨h1, h2⟩ := plain_oks xs (by simpa only [plainD] using h)
    refine ⟨by simpa only [D.py, PyData.showable] using h1, ?_⟩
    simp only [D.py, PyData.shown, wtD]
    exact okS_mono (okS_app (okS_text h2 0 "[" 1 ⟨by decide +kernel, by decide +kernel⟩) ⟨by decide +kernel, (by decide +kernel : (("]" : String) : Str).length ≤ 1)⟩) (by omega)
  | .tup xs, h => by
    obtain ⟨h1, h2⟩ := plain_oks xs (by simpa only [plainD] using h)
    refine ⟨by simpa only [D.py, PyData.showable] using h1, ?_⟩
    simp only [D.py, PyData.shown, wtD, PySem.tupleText]
    refine okS_mono (okS_app (okS_app (m := wtDs xs) (⟨by decide +kernel, by decide +kernel⟩ : okS (("(" : String) : Str) 1) (okS_join h2)) (m := 2) ?_) (by omega)
    split <;> exact ⟨by decide +kernel, by decide +kernel⟩
  | .str x, h => by
    simp only [plainD, decide_eq_true_eq] at h
    subst h
    exact ⟨rfl, by decide +kernel, by decide +kernel⟩
  | .dct, h => by simp [plainD] at h
  | .rng _ _, h => by simp [plainD] at h
theorem plain_oks : ∀ ds : List D, plainDs ds = true → PyData.showableAll (D.pys ds) = true ∧ OkSs (PyData.shownAll (D.pys ds)) (wtDs ds)
  | [], _ => ⟨rfl, .nil⟩
  | x :: xs, h => by
    simp only [plainDs, Bool.and_eq_true] at h
    obtain ⟨a1, a2⟩ := plain_ok x h.1
    obtain ⟨b1, b2⟩ := plain_oks xs h.2
    refine ⟨?_, .cons a2 b2⟩
    simp only [D.pys, PyData.showableAll, a1, b1, Bool.and_self]
end
end Rv
set_option linter.all false
set_option maxRecDepth 100000
set_option maxHeartbeats 1000000
set_option Elab.async false
set_option pp.maxSteps 800
namespace Rv
open Rf
open PySem (Str PyData)
@[simp] theorem dep_str (x : Str) : D.dep (.str x) = if PyData.strOk x then 0 else 1000 := by simp only [D.dep]
@[simp] theorem okE_str (x : Str) : D.okE (.str x) = PyData.strOk x := by
  unfold D.okE; rw [dep_str]; cases PyData.strOk x <;> rfl
@[simp] theorem eqv_strs (x y : Str) : D.eqv (.str x) (.str y) = decide (x = y) := by
  show PyData.eqv (.str x) (.str y) = _
  first | rfl | (unfold PyData.eqv; rfl) | (simp [PyData.eqv]; done) | (unfold PyData.eqv; simp)
end Rv
namespace Pg
open Rf Rv
open PySem (Str PyData)
/-- data whose text can be compared -/
def Txt (d : D) : Prop := d = .dct ∨ (plainD d = true ∧ d.okE = true ∧ wtD d ≤ 100000)
theorem s_alike (k : Nat) (hk : 1 ≤ k) (d : D) (h : Txt d) : depth prog k I__law_alike [.sh d, .sh d] = .ret (.fz (.bl true)) [.un, .un] := by
  obtain ⟨k, rfl⟩ := Nat.exists_eq_add_of_le hk; rw [Nat.add_comm]
  refine depth_wp G__law_alike rfl ?_
  rcases h with rfl | ⟨h1, h2, h3⟩
  · have e : PyData.strOk ("{}" : Str) = true := by decide +kernel
    have e2 : D.okE .dct = false := by decide +kernel
    simp [e, e2]
  · obtain ⟨a1, a2, a3⟩ := plain_ok d h1
    have l := limk (n := d.py.shown.length) (by omega)
    simp [h2, a1, a2, l]
theorem refV_same {cf : CF} {al : Nat} {t : Str} {d dv : D} (ht : PyData.strOk t = true) (e : d.age = dv.age) (h : cf al [.sh dv.age, .sh dv.age] = .ret (.fz (.bl true)) [.un, .un]) : refV cf al t d (.str t) dv = some true := by
  have e1 : co_eq (.str t) (D.age (.str t)) = some true := by
    show co_eq (.str t) (.str t) = _
    unfold co_eq
    simp [ht]
  unfold refV
  rw [e1, e, h]
theorem s_is_below_bl (k : Nat) (hk : 3 ≤ k) (b : Bool) (j : Int) : depth prog k I_is_below [.sh (.bl b), .sh (.int j)] = .ret (.fz (.bl false)) [.un, .un] := by
  obtain ⟨k, rfl⟩ := Nat.exists_eq_add_of_le hk; rw [Nat.add_comm]
  have q : depth prog (k + 1) I_is_whole [.sh (.bl b)] = .ret (.fz (.bl false)) [.un] := by
    refine depth_wp G_is_whole rfl ?_
    simp
  have q2 : depth prog (k + 2) I_is_count [.sh (.bl b)] = .ret (.fz (.bl false)) [.un] := by
    refine depth_wp G_is_count rfl ?_
    simp [q]
  refine depth_wp G_is_below rfl ?_
  simp [q2]
theorem s_is_below_non (k : Nat) (hk : 3 ≤ k) (j : Int) : depth prog k I_is_below [.sh .non, .sh (.int j)] = .ret (.fz (.bl false)) [.un, .un] := by
  obtain ⟨k, rfl⟩ := Nat.exists_eq_add_of_le hk; rw [Nat.add_comm]
  have q : depth prog (k + 1) I_is_whole [.sh .non] = .ret (.fz (.bl false)) [.un] := by
    refine depth_wp G_is_whole rfl ?_
    simp
  have q2 : depth prog (k + 2) I_is_count [.sh .non] = .ret (.fz (.bl false)) [.un] := by
    refine depth_wp G_is_count rfl ?_
    simp [q]
  refine depth_wp G_is_below rfl ?_
  simp [q2]
/-- what is no row of m letters -/
inductive NoRow (m : Nat) : D → Prop
  | non : NoRow m .non
  | int (i : Int) : NoRow m (.int i)
  | tup (xs : List D) : NoRow m (.tup xs)
  | dct : NoRow m .dct
  | len (xs : List D) : xs.length ≠ m → NoRow m (.lst .ol xs)
  | item (xs : List D) : xs ≠ [] → xs.length ≤ 100000 → (∀ d ∈ xs, d = .non ∨ (∃ b, d = .bl b) ∨ d = .int 2) → NoRow m (.lst .ol xs)
theorem NoRow.age {m : Nat} {d : D} (h : NoRow m d) : NoRow m d.age := by
  have hl : ∀ xs : List D, (D.ages xs).length = xs.length := fun xs => by
    induction xs with
    | nil => rfl
    | cons x r ih => simp only [D.ages, List.length_cons, ih]
  cases h with
  | non => exact .non
  | int i => exact .int i
  | tup xs => simp only [D.age]; exact .tup _
  | dct => exact .dct
  | len xs h => simp only [D.age, Lb.age]; exact .len _ (by rw [hl]; exact h)
  | item xs h0 h1 h =>
    have e : D.ages xs = xs := by
      clear h0 h1
      induction xs with
      | nil => rfl
      | cons x r ih =>
        simp only [D.ages]
        rw [ih fun d hd => h d (List.mem_cons_of_mem _ hd)]
        rcases h x List.mem_cons_self with rfl | ⟨b, rfl⟩ | rfl <;> rfl
    simp only [D.age, Lb.age, e]; exact .item xs h0 h1 h
theorem deps_flat : ∀ xs : List D, (∀ d ∈ xs, d = .non ∨ (∃ b, d = .bl b) ∨ d = .int 2) → D.deps xs = 0
  | [], _ => rfl
  | x :: xs, h => by
    have e : x.dep = 0 := by rcases h x List.mem_cons_self with rfl | ⟨b, rfl⟩ | rfl <;> rfl
    simp only [D.deps, e, deps_flat xs fun d hd => h d (List.mem_cons_of_mem _ hd)]; rfl
theorem s_no_letters (k : Nat) (hk : 4 ≤ k) (m : Nat) (d : D) (h : NoRow m d) : depth prog k I_are_letters [.sh d, .sh (.int m)] = .ret (.fz (.bl false)) [.un, .un] := by
  obtain ⟨k, rfl⟩ := Nat.exists_eq_add_of_le hk; rw [Nat.add_comm]
  refine depth_wp G_are_letters rfl ?_
  cases h with
  | non => simp
  | int i => simp
  | tup xs => simp
  | dct => simp
  | len xs h => simp [h]
  | item xs h0 hb h =>
    by_cases hl : xs.length = m
    · simp [hl]
      rw [show xs = xs.map id by simp]
      refine wp_compF id (fun _ => true) id xs wokN (fun a ha => ?_) ?_
      · have q := s_is_below (k + 3) (by omega) 2 2
        simp at q
        rcases h a ha with rfl | ⟨b, rfl⟩ | rfl
        · simp [s_is_below_non (k + 3) (by omega)]
        · simp [s_is_below_bl (k + 3) (by omega)]
        · simp [q]
      · have l := limk (n := xs.length) hb
        have e := deps_flat xs h
        have e2 : eqs xs [] = false := by cases xs with
          | nil => exact absurd rfl h0
          | cons x r => simp
        simp [l, e, e2]
    · simp [hl]
end Pg
set_option linter.all false
set_option maxRecDepth 100000
set_option maxHeartbeats 1000000
set_option Elab.async false
set_option pp.maxSteps 800
/-! rankings that are peaked: by stretches, by ends -/
namespace Pg
open Rf Rv
theorem leastN_snoc (p : Nat) : ∀ (a : Nat) (l : List Nat), leastN a (l ++ [p]) = min (leastN a l) p
  | a, [] => by
    simp only [List.nil_append, leastN]
    split <;> omega
  | a, x :: l => by simp only [List.cons_append, leastN]; exact leastN_snoc p _ l
theorem mostN_snoc (p : Nat) : ∀ (a : Nat) (l : List Nat), mostN a (l ++ [p]) = max (mostN a l) p
  | a, [] => by
    simp only [List.nil_append, mostN]
    split <;> omega
  | a, x :: l => by simp only [List.cons_append, mostN]; exact mostN_snoc p _ l
theorem leastN_le : ∀ (a : Nat) (l : List Nat), ∀ x ∈ a :: l, leastN a l ≤ x
  | a, [], x, h => by simp at h; subst h; exact Nat.le_refl _
  | a, y :: l, x, h => by
    simp only [leastN]
    obtain ⟨c, hc⟩ : ∃ c, c = (if y < a then y else a) := ⟨_, rfl⟩
    rw [← hc]
    have hca : c ≤ a ∧ c ≤ y := by rw [hc]; split <;> omega
    have ih := leastN_le c l
    have h0 := ih _ List.mem_cons_self
    rcases List.mem_cons.mp h with rfl | h
    · omega
    · rcases List.mem_cons.mp h with rfl | h
      · omega
      · exact ih x (List.mem_cons_of_mem _ h)
theorem mostN_ge : ∀ (a : Nat) (l : List Nat), ∀ x ∈ a :: l, x ≤ mostN a l
  | a, [], x, h => by simp at h; subst h; exact Nat.le_refl _
  | a, y :: l, x, h => by
    simp only [mostN]
    obtain ⟨c, hc⟩ : ∃ c, c = (if a < y then y else a) := ⟨_, rfl⟩
    rw [← hc]
    have hca : a ≤ c ∧ y ≤ c := by rw [hc]; split <;> omega
    have ih := mostN_ge c l
    have h0 := ih _ List.mem_cons_self
    rcases List.mem_cons.mp h with rfl | h
    · omega
    · rcases List.mem_cons.mp h with rfl | h
      · omega
      · exact ih x (List.mem_cons_of_mem _ h)
theorem mostN_mem : ∀ (a : Nat) (l : List Nat), mostN a l ∈ a :: l
  | a, [] => by simp [mostN]
  | a, x :: l => by
    unfold mostN
    by_cases h : a < x
    · rw [if_pos h]; exact List.mem_cons_of_mem _ (mostN_mem x l)
    · rw [if_neg h]
      rcases List.mem_cons.mp (mostN_mem a l) with e | e
      · rw [e]; exact List.mem_cons_self
      · exact List.mem_cons_of_mem _ (List.mem_cons_of_mem _ e)
/-- each first part is a stretch -/
def lpk : List Nat → Bool
  | [] => true
  | x :: r => (List.range' 1 r.length).all fun m => decide (mostN x (r.take (m - 1)) + 1 = leastN x (r.take (m - 1)) + m)
theorem lpk_of {x : Nat} {r : List Nat} (h : pkP (x :: r) = true) : lpk (x :: r) = true := by
  unfold lpk
  rw [List.all_eq_true]
  intro m hm
  rw [List.mem_range'_1] at hm
  have h : (pkF x x r).isSome = true := h
  rw [← List.take_append_drop (m - 1) r, pkF_app] at h
  cases q : pkF x x (r.take (m - 1)) with
  | none => rw [q] at h; cases h
  | some z =>
    obtain ⟨l', t'⟩ := z
    obtain ⟨h1, h2, h3, h4⟩ := pkF_ends _ _ _ _ _ (Nat.le_refl x) q
    rw [h1, h2, decide_eq_true_eq]
    rw [List.length_take] at h3
    omega
theorem pk_step {x : Nat} {r : List Nat} : ∀ j, j ≤ r.length → (∀ m, 1 ≤ m → m ≤ j + 1 → mostN x (r.take (m - 1)) + 1 = leastN x (r.take (m - 1)) + m) → ∃ z, pkF x x (r.take j) = some z
  | 0, _, _ => ⟨_, by simp [pkF]; rfl⟩
  | j + 1, hj, h => by
    obtain ⟨⟨l', t'⟩, q⟩ := pk_step j (by omega) fun m h1 h2 => h m h1 (by omega)
    obtain ⟨h1, h2, h3, h4⟩ := pkF_ends _ _ _ _ _ (Nat.le_refl x) q
    have e : r.take (j + 1) = r.take j ++ [r[j]'(by omega)] := (List.take_append_getElem (by omega)).symm
    have hn := h (j + 2) (by omega) (by omega)
    rw [show j + 2 - 1 = j + 1 by omega, e, leastN_snoc, mostN_snoc, h1, h2] at hn
    rw [List.length_take] at h3
    rw [e, pkF_app, q]
    simp only [Option.bind_some, pkF]
    generalize r[j]'(by omega) = p at *
    by_cases c : p + 1 = l'
    · exact ⟨_, by rw [if_pos c]⟩
    · rw [if_neg c]
      by_cases d : p = t' + 1
      · exact ⟨_, by rw [if_pos d]⟩
      · omega
theorem pk_lpk {n : Nat} {p : List Nat} (hp : Ord n p) : pkP p = lpk p := by
  cases p with
  | nil => rfl
  | cons x r =>
    cases q : pkP (x :: r) with
    | true => rw [lpk_of q]
    | false =>
      cases q2 : lpk (x :: r) with
      | false => rfl
      | true =>
        exfalso
        have hlen : r.length + 1 = n := by simpa using hp.len
        unfold lpk at q2
        rw [List.all_eq_true] at q2
        obtain ⟨z, hz⟩ := pk_step (x := x) (r := r) r.length (Nat.le_refl _) fun m h1 h2 => by
          by_cases c : m ≤ r.length
          · have := q2 m (by rw [List.mem_range'_1]; omega)
            rwa [decide_eq_true_eq] at this
          · have e : m = r.length + 1 := by omega
            subst e
            rw [show r.length + 1 - 1 = r.length by omega, List.take_length]
            have a0 : leastN x r = 0 := by
              have := leastN_le x r 0 (hp.mem.mpr (by omega))
              omega
            have a1 := mostN_ge x r (n - 1) (hp.mem.mpr (by omega))
            have a2 : mostN x r < n := hp.mem.mp (mostN_mem x r)
            omega
        rw [List.take_length] at hz
        have : pkP (x :: r) = (pkF x x r).isSome := rfl
        rw [q, hz] at this
        cases this
/-- a stretch that grows tells its letters -/
theorem row_of : ∀ (ps : List Nat) (l t l' t' : Nat), l ≤ t → pkF l t ps.reverse = some (l', t') → ∃ row, Lets ps.length row ∧ ps = tkI l' (t' - l' + 1) row ∧ lfA l' row = l ∧ t' - l' = t - l + ps.length
  | [], l, t, l', t', h, e => by
    cases e
    exact ⟨[], ⟨rfl, fun b h => by cases h⟩, rfl, rfl, by simp⟩
  | p :: ps, l, t, l', t', h, e => by
    rw [List.reverse_cons, pkF_app] at e
    cases q : pkF l t ps.reverse with
    | none => rw [q] at e; cases e
    | some z =>
      obtain ⟨l1, t1⟩ := z
      rw [q] at e
      obtain ⟨_, _, _, hle⟩ := pkF_ends _ _ _ _ _ h q
      obtain ⟨row, h1, h2, h3, h4⟩ := row_of ps l t l1 t1 h q
      simp only [Option.bind_some, pkF] at e
      by_cases c : p + 1 = l1
      · rw [if_pos c] at e
        cases e
        refine ⟨0 :: row, ⟨by simp [h1.1], fun b hb => ?_⟩, ?_, ?_, by simp; omega⟩
        · rcases List.mem_cons.mp hb with rfl | hb
          · omega
          · exact h1.2 b hb
        · simp only [tkI, if_true]
          rw [show p + 1 = l1 from c, show t' - p + 1 - 1 = t' - l1 + 1 by omega, ← h2]
        · simp only [lfA, if_true]
          rw [show p + 1 = l1 from c]; exact h3
      · rw [if_neg c] at e
        by_cases d : p = t1 + 1
        · rw [if_pos d] at e
          cases e
          refine ⟨1 :: row, ⟨by simp [h1.1], fun b hb => ?_⟩, ?_, ?_, by simp; omega⟩
          · rcases List.mem_cons.mp hb with rfl | hb
            · omega
            · exact h1.2 b hb
          · have e3 : ¬ (1 : Nat) = 0 := by omega
            simp only [tkI, if_neg e3]
            rw [show p - l' + 1 - 1 = t1 - l' + 1 by omega, ← h2]
            congr 1
            omega
          · have e3 : ¬ (1 : Nat) = 0 := by omega
            simp only [lfA, if_neg e3]
            exact h3
        · rw [if_neg d] at e; cases e
theorem byI_of {n : Nat} {p : List Nat} (hp : Ord n p) (h1 : 1 ≤ n) (h : pkP p = true) : ∃ row, Lets (n - 1) row ∧ p = byI n row := by
  cases p with
  | nil => have := hp.len; simp at this; omega
  | cons x r =>
    have hlen : r.length + 1 = n := by simpa using hp.len
    have h : (pkF x x r).isSome = true := h
    cases q : pkF x x r with
    | none => rw [q] at h; cases h
    | some z =>
      obtain ⟨l', t'⟩ := z
      obtain ⟨a1, a2, a3, a4⟩ := pkF_ends _ _ _ _ _ (Nat.le_refl x) q
      have a0 : leastN x r = 0 := by
        have := leastN_le x r 0 (hp.mem.mpr (by omega))
        omega
      have hl : l' = 0 := by omega
      subst hl
      obtain ⟨row, b1, b2, b3, b4⟩ := row_of r.reverse x x 0 t' (Nat.le_refl _) (by rw [List.reverse_reverse]; exact q)
      rw [List.length_reverse] at b1 b4
      have hrl := b1.1
      refine ⟨row, by rw [show n - 1 = r.length by omega]; exact b1, ?_⟩
      unfold byI
      rw [b3, show n - row.length = 1 by omega]
      rw [show t' - 0 + 1 = n by omega] at b2
      rw [← b2, List.reverse_reverse]
      rfl
theorem on_self {n : Nat} {ax r : List Nat} (ha : Ord n ax) (hr : ∀ a ∈ r, a < n) : on ax (r.map fun a => ax.idxOf a) = r := by
  unfold on
  rw [List.map_map]
  conv => rhs; rw [← List.map_id r]
  apply List.map_congr_left
  intro a h
  exact getD_idxOf ha (hr a h)
theorem places_ord {n : Nat} {ax r : List Nat} (ha : Ord n ax) (hr : Ord n r) : Ord n (r.map fun a => ax.idxOf a) := by
  refine ord_few.mpr ⟨by rw [List.length_map, hr.len], fun a h => ?_, ?_⟩
  · obtain ⟨b, hb, rfl⟩ := List.mem_map.mp h
    exact idxOf_lt ha (hr.mem.mp hb)
  · rw [List.Nodup, List.pairwise_map]
    exact List.Pairwise.imp_of_mem (fun h1 h2 h3 h4 => h3 (idxOf_inj ha (hr.mem.mp h1) (hr.mem.mp h2) h4)) hr.nodup
/-- a peaked ranking is told by letters -/
theorem img_of {n : Nat} {ax r : List Nat} (ha : Ord n ax) (hr : Ord n r) (h1 : 1 ≤ n) (h : pk r ax = true) : ∃ row, Lets (n - 1) row ∧ r = bye n ax row := by
  rw [pk_P] at h
  obtain ⟨row, b1, b2⟩ := byI_of (places_ord ha hr) h1 h
  refine ⟨row, b1, ?_⟩
  unfold bye
  rw [← b2, on_self ha fun a h => hr.mem.mp h]
end Pg
set_option linter.all false
set_option maxRecDepth 100000
set_option maxHeartbeats 1000000
set_option Elab.async false
set_option pp.maxSteps 800
namespace Pg
open Rf Rv
theorem s_law_peaked (k : Nat) (hk : 1 ≤ k) (n : Nat) (ax r : List Nat) (ha : Ord n ax) (hr : Ord n r) (h1 : 1 ≤ n) (h7 : n ≤ 7) : depth prog k I__law_peaked [.sh (rk .ol r), .sh (rk .ol ax)] = .ret (.fz (.bl (pk r ax))) [.un, .un] := by
  obtain ⟨k, rfl⟩ := Nat.exists_eq_add_of_le hk; rw [Nat.add_comm]
  have hP := places_ord ha hr
  have hpk : pk r ax = lpk (r.map fun a => ax.idxOf a) := by rw [pk_P, pk_lpk hP]
  have hlen := hr.len
  refine depth_wp G__law_peaked rfl ?_
  simp
  refine wp_compF (fun k : Nat => D.int k) (fun _ => true) (fun a : Nat => D.int (ax.idxOf a : Nat)) r wokN (fun a ha' => ?_) ?_
  · simp [mt_index_nat .ol ax a (ha.mem.mpr (hr.mem.mp ha'))]
  · have e : (r.map fun a : Nat => D.int (ax.idxOf a : Nat)) = (r.map fun a => ax.idxOf a).map fun k : Nat => D.int k := by simp
    simp only [filter_yes]
    rw [e]
    have hl2 : (r.map fun a => ax.idxOf a).length = n := hP.len
    rw [hpk]
    generalize (r.map fun a => ax.idxOf a) = ps at *
    cases ps with
    | nil => simp at hl2; omega
    | cons x q =>
      have hq : q.length + 1 = n := by simpa using hl2
      have l1 := limk (n := q.length + 1) (by omega)
      have sm : small ((q.length : Int) + 1) = true := small_k (by omega) (by omega)
      simp [l1, sm, ranged_1s]
      refine ⟨small_k (by omega) (by omega), ?_⟩
      refine wp_compF (fun k : Nat => D.int k) (fun m => !decide (mostN x (q.take (m - 1)) + 1 = leastN x (q.take (m - 1)) + m)) (fun k : Nat => D.int k) (List.range' 1 q.length) wokN (fun m hm => ?_) ?_
      · rw [List.mem_range'_1] at hm
        have c : cutG (D.int (x : Nat) :: q.map fun k : Nat => D.int k) none (some (m : Int)) = (x :: q.take (m - 1)).map fun k : Nat => D.int k := by
          rw [cutG_toN]
          obtain ⟨j, rfl⟩ : ∃ j, m = j + 1 := ⟨m - 1, by omega⟩
          simp
        have m1 := maxL_nats .nu x (q.take (m - 1))
        have m2 := minL_nats .nu x (q.take (m - 1))
        rw [← c] at m1 m2
        have e1 : ((mostN x (q.take (m - 1)) : Nat) : Int) - (leastN x (q.take (m - 1)) : Nat) = (m : Int) - 1 ↔ mostN x (q.take (m - 1)) + 1 = leastN x (q.take (m - 1)) + m := by omega
        generalize mostN x (q.take (m - 1)) = M at *
        generalize leastN x (q.take (m - 1)) = L at *
        by_cases h : M + 1 = L + m
        · have h' := e1.mpr h
          simp [m1, m2, h, h']
        · have h' : ¬ ((M : Int) - (L : Int) = (m : Int) - 1) := fun z => h (e1.mp z)
          simp [m1, m2, h, h']
      · have l2 := limk (n := ((List.range' 1 q.length).filter fun m => !decide (mostN x (q.take (m - 1)) + 1 = leastN x (q.take (m - 1)) + m)).length) (Nat.le_trans (List.length_filter_le _ _) (by rw [List.length_range']; omega))
        simp [l2, filter_empty]
        rfl
end Pg
set_option linter.all false
set_option maxRecDepth 100000
set_option maxHeartbeats 1000000
set_option Elab.async false
set_option pp.maxSteps 800
namespace Pg
open Rf Rv
theorem s_same_int (k : Nat) (hk : 1 ≤ k) (i : Nat) : depth prog k I__law_same [.sh (.int i), .sh (.int i)] = .ret (.fz (.bl true)) [.un, .un] := by
  obtain ⟨k, rfl⟩ := Nat.exists_eq_add_of_le hk; rw [Nat.add_comm]
  refine depth_wp G__law_same rfl ?_
  simp
theorem s_same_list (k : Nat) (f g : Lb) (xs ys : List D) (hl : xs.length = ys.length) (h : ys.length ≤ 1000) (hi : ∀ (i : Nat) (x y : D), xs[i]? = some x → ys[i]? = some y → depth prog k I__law_same [.sh x.age, .sh y.age] = .ret (.fz (.bl true)) [.un, .un]) : depth prog (k + 1) I__law_same [.sh (.lst f xs), .sh (.lst g ys)] = .ret (.fz (.bl true)) [.un, .un] := by
  have sm : small (ys.length : Int) = true := small_k (by omega) (by omega)
  refine depth_wp G__law_same rfl ?_
  simp [sm, ranged_nat, hl]
  refine wp_compF (fun k : Nat => D.int k) (fun _ => false) (fun k : Nat => D.int k) (List.range ys.length) wokN (fun i hi' => ?_) ?_
  · have hi' := List.mem_range.mp hi'
    have e1 : xs[i]? = some (xs[i]'(by omega)) := List.getElem?_eq_getElem (by omega)
    have e2 : ys[i]? = some (ys[i]'hi') := List.getElem?_eq_getElem hi'
    have q := hi i _ _ e1 e2
    have a1 : L2.atI xs (i : Int) = some (xs[i]'(by omega)) := by rw [atI_nat, e1]
    have a2 : L2.atI ys (i : Int) = some (ys[i]'hi') := by rw [atI_nat, e2]
    generalize xs[i]'(by omega) = x at *
    generalize ys[i]'hi' = y at *
    simp [a1, a2, q]
  · simp
theorem s_same_nats (k : Nat) (hk : 2 ≤ k) (f g : Lb) (a : List Nat) (h : a.length ≤ 1000) : depth prog k I__law_same [.sh (rk f a), .sh (rk g a)] = .ret (.fz (.bl true)) [.un, .un] := by
  obtain ⟨k, rfl⟩ := Nat.exists_eq_add_of_le hk; rw [show 2 + k = k + 1 + 1 by omega]
  refine s_same_list (k + 1) f g _ _ rfl (by simpa using h) fun i x y e1 e2 => ?_
  rw [e1] at e2
  cases e2
  rw [List.getElem?_map] at e1
  obtain ⟨b, _, rfl⟩ := Option.map_eq_some_iff.mp e1
  exact s_same_int (k + 1) (by omega) b
end Pg
set_option linter.all false
set_option maxRecDepth 100000
set_option maxHeartbeats 2000000
set_option Elab.async false
set_option pp.maxSteps 800
namespace Pg
open Rf Rv
open PySem (Str PyData)
def wholeD : D → Bool
  | .int _ => true
  | _ => false
def belowD (m : Nat) : D → Bool
  | .int i => decide (0 ≤ i) && decide (i < m)
  | _ => false
theorem s_whole_any (k : Nat) (hk : 1 ≤ k) (d : D) (h : d.isRng = false) : depth prog k I_is_whole [.sh d] = .ret (.fz (.bl (wholeD d))) [.un] := by
  obtain ⟨k, rfl⟩ := Nat.exists_eq_add_of_le hk; rw [Nat.add_comm]
  refine depth_wp G_is_whole rfl ?_
  cases d with
  | rng a b => cases h
  | _ => simp [wholeD]
theorem D.isRng_age (d : D) : d.age.isRng = d.isRng := by cases d <;> simp only [D.age] <;> rfl
theorem wholeD_age (d : D) : wholeD d.age = wholeD d := by cases d <;> simp only [D.age] <;> rfl
theorem s_below_any (k : Nat) (hk : 3 ≤ k) (m : Nat) (d : D) (h : d.isRng = false) : depth prog k I_is_below [.sh d, .sh (.int m)] = .ret (.fz (.bl (belowD m d))) [.un, .un] := by
  obtain ⟨k, rfl⟩ := Nat.exists_eq_add_of_le hk; rw [Nat.add_comm]
  have q0 : ∀ d : D, d.isRng = false → depth prog (k + 1) I_is_whole [.sh d] = .ret (.fz (.bl (wholeD d))) [.un] := fun d h => s_whole_any (k + 1) (by omega) d h
  have q3 : ∀ d : D, d.isRng = false → depth prog (k + 2) I_is_count [.sh d] = .ret (.fz (.bl (match d with | .int i => decide (0 ≤ i) | _ => false))) [.un] := by
    intro d h
    refine depth_wp G_is_count rfl ?_
    cases d with
    | rng a b => cases h
    | int i => simp [q0 (.int i) rfl, wholeD]
    | non => simp [q0 .non rfl, wholeD]
    | bl b => simp [q0 (.bl b) rfl, wholeD]
    | str b => simp [q0 (.str b) rfl, wholeD]
    | lst f xs => simp [q0 (.lst f xs) rfl, q0 (.lst f.age (D.ages xs)) rfl, wholeD]
    | tup xs => simp [q0 (.tup xs) rfl, q0 (.tup (D.ages xs)) rfl, wholeD]
    | dct => simp [q0 .dct rfl, wholeD]
  refine depth_wp G_is_below rfl ?_
  cases d with
  | rng a b => cases h
  | int i =>
    have q4 := q3 (.int i) rfl
    simp only at q4
    by_cases c : 0 ≤ i
    · simp [q4, c, belowD]
    · simp [q4, c, belowD]
  | non => simp [q3 .non rfl, belowD]
  | bl b => simp [q3 (.bl b) rfl, belowD]
  | str b => simp [q3 (.str b) rfl, belowD]
  | lst f xs => simp [q3 (.lst f xs) rfl, q3 (.lst f.age (D.ages xs)) rfl, belowD]
  | tup xs => simp [q3 (.tup xs) rfl, q3 (.tup (D.ages xs)) rfl, belowD]
  | dct => simp [q3 .dct rfl, belowD]
theorem deps_le : ∀ {l : List D} {k : Nat}, (∀ x ∈ l, x.dep ≤ k) → D.deps l ≤ k
  | [], _, _ => by simp [D.deps]
  | x :: l, k, h => by
    simp only [D.deps]
    have h1 := h x List.mem_cons_self
    have h2 := deps_le (l := l) fun y hy => h y (List.mem_cons_of_mem _ hy)
    omega
/-- what is no order of m things -/
inductive NoOrd (m : Nat) : D → Prop
  | non : NoOrd m .non
  | int (i : Int) : NoOrd m (.int i)
  | tup (xs : List D) : NoOrd m (.tup xs)
  | dct : NoOrd m .dct
  | len (xs : List D) : xs.length ≠ m → NoOrd m (.lst .ol xs)
  | item (xs : List D) : xs.length = m → xs.length ≤ 100000 → (∀ x ∈ xs, x.isRng = false ∧ x.dep ≤ 5) → (∃ x ∈ xs, belowD m x = false) → NoOrd m (.lst .ol xs)
theorem belowD_age (m : Nat) (d : D) : belowD m d.age = belowD m d := by cases d <;> simp only [D.age] <;> rfl
theorem s_no_order (k : Nat) (hk : 4 ≤ k) (m : Nat) (d : D) (h : NoOrd m d) : depth prog k I_is_order_of [.sh (.int m), .sh d] = .ret (.fz (.bl false)) [.un, .un] := by
  obtain ⟨k, rfl⟩ := Nat.exists_eq_add_of_le hk; rw [Nat.add_comm]
  refine depth_wp G_is_order_of rfl ?_
  cases h with
  | non => simp
  | int i => simp
  | tup xs => simp
  | dct => simp
  | len xs h => simp [h]
  | item xs h0 hb h h1 =>
    simp [h0]
    rw [show xs = xs.map id by simp]
    refine wp_compF id (fun x => !belowD m x) id xs wokN (fun x hx => ?_) ?_
    · have q := s_below_any (k + 3) (by omega) m x.age (by rw [D.isRng_age]; exact (h x hx).1)
      rw [belowD_age] at q
      cases hx2 : belowD m x <;> (rw [hx2] at q; simp [q])
    · have l := limk (n := (xs.filter fun x => !belowD m x).length) (Nat.le_trans (List.length_filter_le _ _) (by omega))
      have e : D.deps (xs.filter fun x => !belowD m x) ≤ 49 := Nat.le_trans (deps_le (k := 5) fun x hx => (h x ((List.mem_filter.mp hx).1)).2) (by omega)
      have e2 : (xs.filter fun x => !belowD m x).isEmpty = false := by
        obtain ⟨x, hx, hx2⟩ := h1
        have : x ∈ xs.filter fun x => !belowD m x := List.mem_filter.mpr ⟨hx, by rw [hx2]; rfl⟩
        cases hh : xs.filter fun x => !belowD m x with
        | nil => rw [hh] at this; cases this
        | cons a b => rfl
      simp [l, e, e2]
theorem ages_rev (l : List D) : D.ages l.reverse = (D.ages l).reverse := by
  have h : ∀ l : List D, D.ages l = l.map D.age := fun l => by rw [← List.map_id l, ages_map]; simp
  rw [h, h, List.map_reverse]
end Pg
set_option linter.all false
set_option maxRecDepth 100000
set_option maxHeartbeats 2000000
set_option Elab.async false
set_option pp.maxSteps 800
namespace Pg
open Rf Rv
open PySem (Str PyData)
def wrongs (n : Nat) : List D :=
  let L : List D := (List.range n).map fun k : Nat => D.int k
  [.non, .int 7, .tup [], .dct, .tup L, .lst .nu (L.drop 1), .lst .nu (L ++ [.int n]), .lst .nu (.int n :: L.drop 1), .lst .nu (.int (-1) :: L.drop 1), .lst .nu (.non :: L.drop 1), .lst .nu (.str "0" :: L.drop 1), .lst .nu (.lst .nu [.int 0] :: L.drop 1), .lst .nu (rep [.bl true] n)]
theorem s_law_wrong (k : Nat) (hk : 1 ≤ k) (n : Nat) (h1 : 1 ≤ n) (h7 : n ≤ 7) : depth prog k I__law_wrong_rankings [.sh (.int n)] = .ret (.nw (wrongs n)) [.un] := by
  obtain ⟨k, rfl⟩ := Nat.exists_eq_add_of_le hk; rw [Nat.add_comm]
  have sn : small (n : Int) = true := small_k (by omega) (by omega)
  have l1 := limk (n := n) (by omega)
  have l2 := limk (n := n + 1) (by omega)
  have l3 := limk (n := 1 + n) (by omega)
  have l4 := limk (n := 1 + (n - 1)) (by omega)
  have l5 := limk (n := n - 1) (by omega)
  have hst : PyData.strOk ("0" : Str) = true := by decide +kernel
  have e13 : 13 ≤ lim := limk (by omega)
  refine depth_wp G__law_wrong_rankings rfl ?_
  simp [sn, ranged_nat, l1, l2, l3, l4, l5, hst, e13, wrongs]
  omega
def noOrdB (m : Nat) : D → Bool
  | .non => true
  | .int _ => true
  | .tup _ => true
  | .dct => true
  | .lst .ol xs => !decide (xs.length = m) || (decide (xs.length ≤ 100000) && xs.all (fun x => !x.isRng && decide (x.dep ≤ 5)) && xs.any (fun x => !belowD m x))
  | _ => false
theorem noOrd_of {m : Nat} {d : D} (h : noOrdB m d = true) : NoOrd m d := by
  cases d with
  | non => exact .non
  | int i => exact .int i
  | tup xs => exact .tup xs
  | dct => exact .dct
  | bl b => cases h
  | str b => cases h
  | rng a b => cases h
  | lst f xs =>
    cases f with
    | ol =>
      simp only [noOrdB, Bool.or_eq_true, Bool.not_eq_true', decide_eq_false_iff_not, Bool.and_eq_true, decide_eq_true_eq, List.all_eq_true, List.any_eq_true] at h
      by_cases c : xs.length = m
      · rcases h with h | ⟨⟨h1, h2⟩, x, h3, h4⟩
        · exact absurd c h
        · exact .item xs c h1 h2 ⟨x, h3, h4⟩
      · exact .len xs c
    | _ => cases h
def txtB : D → Bool
  | .dct => true
  | d => plainD d && d.okE && decide (wtD d ≤ 100000)
theorem txt_of {d : D} (h : txtB d = true) : Txt d := by
  cases d with
  | dct => exact .inl rfl
  | _ => 
    simp only [txtB, Bool.and_eq_true, decide_eq_true_eq] at h
    exact .inr ⟨h.1.1, h.1.2, h.2⟩
theorem wrongs_all : (List.range' 1 7).all (fun n => (wrongs n).all fun d => noOrdB n d.age && txtB d.age) = true := by decide +kernel
theorem wrongs_ok {n : Nat} (h1 : 1 ≤ n) (h7 : n ≤ 7) {d : D} (h : d ∈ wrongs n) : NoOrd n d.age ∧ Txt d.age := by
  have := List.all_eq_true.mp (List.all_eq_true.mp wrongs_all n (by rw [List.mem_range'_1]; omega)) d h
  simp only [Bool.and_eq_true] at this
  exact ⟨noOrd_of this.1, txt_of this.2⟩
end Pg
set_option linter.all false
set_option maxRecDepth 100000
set_option maxHeartbeats 4000000
set_option Elab.async false
set_option pp.maxSteps 1500
namespace Pg
open Rf Rv
open PySem (Str PyData)
@[simp] theorem gen_scal (g : Gen) : g.ds.all D.scal = true := rfl
theorem plain_nats : ∀ {l : List Nat}, (∀ a ∈ l, a < 100) → plainDs (l.map fun k : Nat => D.int k) = true
  | [], _ => rfl
  | a :: l, h => by
    have h0 := h a List.mem_cons_self
    simp only [List.map_cons, plainDs, plainD, plain_nats fun b hb => h b (List.mem_cons_of_mem _ hb), Bool.and_true, Bool.and_eq_true, decide_eq_true_eq]
    omega
theorem wt_nats : ∀ l : List Nat, wtDs (l.map fun k : Nat => D.int k) = 10 * l.length
  | [] => rfl
  | a :: l => by simp only [List.map_cons, wtDs, wtD, wt_nats l, List.length_cons]; omega
theorem txt_nats {l : List Nat} (h : ∀ a ∈ l, a < 100) (hl : l.length ≤ 1000) (f : Lb) : Txt (.lst f (l.map fun k : Nat => D.int k)) := by
  refine .inr ⟨by simp only [plainD]; exact plain_nats h, by simp, ?_⟩
  simp only [wtD, wt_nats]; omega
theorem str_unpeaked : PySem.PyData.strOk ("unpeaked" : PySem.Str) = true := by decide +kernel
theorem str_row : PySem.PyData.strOk ("row" : PySem.Str) = true := by decide +kernel
mutual
theorem age_age : ∀ d : D, d.age.age = d.age
  | .non => rfl
  | .bl _ => rfl
  | .int _ => rfl
  | .str _ => rfl
  | .lst f xs => by simp only [D.age]; rw [ages_ages xs]; cases f <;> rfl
  | .tup xs => by simp only [D.age]; rw [ages_ages xs]
  | .dct => rfl
  | .rng _ _ => rfl
theorem ages_ages : ∀ ds : List D, D.ages (D.ages ds) = D.ages ds
  | [] => rfl
  | x :: xs => by simp only [D.ages]; rw [age_age x, ages_ages xs]
end

theorem str_ranking : PySem.PyData.strOk ("ranking" : PySem.Str) = true := by decide +kernel
theorem ages_nats (l : List Nat) : D.ages (l.map fun k : Nat => D.int k) = l.map fun k : Nat => D.int k := by
  induction l with
  | nil => rfl
  | cons a l ih => simp only [List.map_cons, D.ages, D.age, ih]
/-- ballots or axes as data -/
abbrev rks (f g : Lb) (bs : List (List Nat)) : D := .lst f (bs.map fun r => rk g r)
theorem plain_rks {g : Lb} : ∀ {bs : List (List Nat)}, (∀ r ∈ bs, ∀ a ∈ r, a < 100) → plainDs (bs.map fun r => rk g r) = true
  | [], _ => rfl
  | r :: bs, h => by
    have h1 := plain_nats (h r List.mem_cons_self)
    have h2 := plain_rks (g := g) (bs := bs) fun q hq => h q (List.mem_cons_of_mem _ hq)
    simp only [List.map_cons, plainDs, plainD, h1, h2]; rfl
theorem wt_rks {g : Lb} : ∀ {bs : List (List Nat)}, (∀ r ∈ bs, r.length ≤ 7) → wtDs (bs.map fun r => rk g r) ≤ 80 * bs.length
  | [], _ => by simp [wtDs]
  | r :: bs, h => by
    have h1 := h r List.mem_cons_self
    have h2 := wt_rks (g := g) (bs := bs) fun q hq => h q (List.mem_cons_of_mem _ hq)
    simp only [List.map_cons, wtDs, wtD, wt_nats, List.length_cons]; omega
theorem py_rks (f g f' g' : Lb) (bs : List (List Nat)) : (rks f g bs).py = (rks f' g' bs).py := by
  simp only [D.py]
  congr 1
  induction bs with
  | nil => rfl
  | cons r bs ih => simp only [List.map_cons, D.pys, ih]; rfl
theorem deps_rks {g : Lb} : ∀ bs : List (List Nat), D.deps (bs.map fun r => rk g r) ≤ 2
  | [] => by simp [D.deps]
  | r :: bs => by
    have := deps_rks (g := g) bs
    have h : D.deps (r.map fun k : Nat => D.int k) = 0 := by simp
    simp only [List.map_cons, D.deps, D.dep, h]; omega
theorem okE_rks (f g : Lb) (bs : List (List Nat)) : (rks f g bs).okE = true := by
  have := deps_rks (g := g) bs
  unfold D.okE
  simp only [D.dep]
  exact decide_eq_true (by omega)
theorem eqv_rk (f g : Lb) (a b : List Nat) : D.eqv (rk f a) (rk g b) = decide (a = b) := by
  rw [eqv_lst]
  exact eqs_map eqv_nat a b
theorem any_rks (f g : Lb) (bs : List (List Nat)) (a : List Nat) : ((bs.map fun r => rk g r).any fun z => z.eqv (rk f a)) = decide (a ∈ bs) := by
  induction bs with
  | nil => simp
  | cons b bs ih => simp only [List.map_cons, List.any_cons, ih, eqv_rk, List.mem_cons]; rw [Bool.eq_iff_iff]; simp; rw [eq_comm (a := b)]
theorem s_same_bl (k : Nat) (hk : 1 ≤ k) (b : Bool) : depth prog k I__law_same [.sh (.bl b), .sh (.bl b)] = .ret (.fz (.bl true)) [.un, .un] := by
  obtain ⟨k, rfl⟩ := Nat.exists_eq_add_of_le hk; rw [Nat.add_comm]
  refine depth_wp G__law_same rfl ?_
  cases b <;> simp
theorem s_same_rks (k : Nat) (hk : 3 ≤ k) (f g f' g' : Lb) (bs : List (List Nat)) (h : bs.length ≤ 1000) (h2 : ∀ r ∈ bs, r.length ≤ 1000) : depth prog k I__law_same [.sh (rks f g bs), .sh (rks f' g' bs)] = .ret (.fz (.bl true)) [.un, .un] := by
  obtain ⟨k, rfl⟩ := Nat.exists_eq_add_of_le hk; rw [show 3 + k = k + 2 + 1 by omega]
  refine s_same_list (k + 2) f f' _ _ (by simp) (by simpa using h) fun i x y e1 e2 => ?_
  rw [List.getElem?_map] at e1 e2
  obtain ⟨b, hb, rfl⟩ := Option.map_eq_some_iff.mp e1
  rw [hb] at e2
  cases e2
  simp only [D.age, ages_nats]
  exact s_same_nats (k + 2) (by omega) g.age g'.age b (h2 b (List.mem_of_getElem? hb))
@[simp] theorem order0 {α : Type} (a : α) : order [0] [a] = some [a] := rfl
@[simp] theorem order10 {α : Type} (a b : α) : order [1, 0] [a, b] = some [b, a] := rfl
end Pg
set_option linter.all false
set_option maxRecDepth 100000
set_option maxHeartbeats 2000000
set_option Elab.async false
set_option pp.maxSteps 800
/-! `_law_same` of any data with itself -/
namespace Rv
open Rf
mutual
def hgt : D → Nat
  | .lst _ xs => hgts xs + 1
  | .tup xs => hgts xs + 1
  | _ => 1
def hgts : List D → Nat
  | [] => 0
  | x :: xs => max (hgt x) (hgts xs)
end
mutual
def sizD : D → Bool
  | .lst _ xs => decide (xs.length ≤ 1000) && sizDs xs
  | .tup xs => decide (xs.length ≤ 1000) && sizDs xs
  | .non => true
  | .bl _ => true
  | .int _ => true
  | _ => false
def sizDs : List D → Bool
  | [] => true
  | x :: xs => sizD x && sizDs xs
end
theorem hgts_mem : ∀ {xs : List D} {x : D}, x ∈ xs → hgt x ≤ hgts xs
  | _ :: _, _, h => by
    rcases List.mem_cons.mp h with rfl | h
    · simp only [hgts]; omega
    · have := hgts_mem h
      simp only [hgts]; omega
theorem sizDs_mem : ∀ {xs : List D} {x : D}, sizDs xs = true → x ∈ xs → sizD x = true
  | _ :: _, _, h, m => by
    simp only [sizDs, Bool.and_eq_true] at h
    rcases List.mem_cons.mp m with rfl | m
    · exact h.1
    · exact sizDs_mem h.2 m
theorem ages_mem : ∀ {xs : List D} {x : D}, D.ages xs = xs → x ∈ xs → x.age = x
  | _ :: _, _, h, m => by
    simp only [D.ages, List.cons.injEq] at h
    rcases List.mem_cons.mp m with rfl | m
    · exact h.1
    · exact ages_mem h.2 m
@[simp] theorem hgts_nats (l : List Nat) : hgts (l.map fun k : Nat => D.int k) ≤ 1 := by
  induction l with
  | nil => simp [hgts]
  | cons a l ih => simp only [List.map_cons, hgts, hgt]; omega
@[simp] theorem sizDs_nats (l : List Nat) : sizDs (l.map fun k : Nat => D.int k) = true := by
  induction l with
  | nil => rfl
  | cons a l ih => simp only [List.map_cons, sizDs, sizD, ih]; rfl
end Rv
namespace Pg
open Rf Rv
open PySem (Str PyData)
theorem hgt_rk (f : Lb) (l : List Nat) : hgt (rk f l) ≤ 2 := by
  have := hgts_nats l
  simp only [hgt]; omega
theorem siz_rk {f : Lb} {l : List Nat} (h : l.length ≤ 1000) : sizD (rk f l) = true := by
  simp only [sizD, sizDs_nats, List.length_map, Bool.and_true, decide_eq_true_eq]; exact h
theorem age_rk (l : List Nat) : (rk .ol l).age = rk .ol l := by simp only [D.age, ages_nats]; rfl
theorem hgts_rks {g : Lb} (bs : List (List Nat)) : hgts (bs.map fun r => rk g r) ≤ 2 := by
  induction bs with
  | nil => simp [hgts]
  | cons a l ih => have := hgt_rk g a; simp only [List.map_cons, hgts]; omega
theorem sizDs_rks {g : Lb} : ∀ {bs : List (List Nat)}, (∀ r ∈ bs, r.length ≤ 1000) → sizDs (bs.map fun r => rk g r) = true
  | [], _ => rfl
  | r :: bs, h => by
    have h1 := siz_rk (f := g) (h r List.mem_cons_self)
    have h2 := sizDs_rks (g := g) (bs := bs) fun q hq => h q (List.mem_cons_of_mem _ hq)
    simp only [List.map_cons, sizDs, h1, h2]; rfl
theorem s_same_tup (k : Nat) (xs ys : List D) (hl : xs.length = ys.length) (h : ys.length ≤ 1000) (hi : ∀ (i : Nat) (x y : D), xs[i]? = some x → ys[i]? = some y → depth prog k I__law_same [.sh x.age, .sh y.age] = .ret (.fz (.bl true)) [.un, .un]) : depth prog (k + 1) I__law_same [.sh (.tup xs), .sh (.tup ys)] = .ret (.fz (.bl true)) [.un, .un] := by
  have sm : small (ys.length : Int) = true := small_k (by omega) (by omega)
  refine depth_wp G__law_same rfl ?_
  simp [sm, ranged_nat, hl]
  refine wp_compF (fun k : Nat => D.int k) (fun _ => false) (fun k : Nat => D.int k) (List.range ys.length) wokN (fun i hi' => ?_) ?_
  · have hi' := List.mem_range.mp hi'
    have e1 : xs[i]? = some (xs[i]'(by omega)) := List.getElem?_eq_getElem (by omega)
    have e2 : ys[i]? = some (ys[i]'hi') := List.getElem?_eq_getElem hi'
    have q := hi i _ _ e1 e2
    have a1 : L2.atI xs (i : Int) = some (xs[i]'(by omega)) := by rw [atI_nat, e1]
    have a2 : L2.atI ys (i : Int) = some (ys[i]'hi') := by rw [atI_nat, e2]
    generalize xs[i]'(by omega) = x at *
    generalize ys[i]'hi' = y at *
    simp [a1, a2, q]
  · simp
theorem s_same_self : ∀ (n : Nat) (z : D), z.age = z → hgt z ≤ n → sizD z = true → ∀ k, n ≤ k → depth prog k I__law_same [.sh z, .sh z] = .ret (.fz (.bl true)) [.un, .un]
  | 0, z, _, h, _, _, _ => by cases z <;> simp [hgt] at h
  | n + 1, z, ha, hh, hs, k, hk => by
    obtain ⟨k, rfl⟩ : ∃ j, k = j + 1 := ⟨k - 1, by omega⟩
    cases z with
    | non => exact depth_wp G__law_same rfl (by simp)
    | bl b => exact s_same_bl (k + 1) (by omega) b
    | int i => exact depth_wp G__law_same rfl (by simp)
    | str x => cases hs
    | dct => cases hs
    | rng a b => cases hs
    | lst f xs =>
      simp only [D.age, D.lst.injEq] at ha
      simp only [hgt] at hh
      simp only [sizD, Bool.and_eq_true, decide_eq_true_eq] at hs
      refine s_same_list k f f xs xs rfl hs.1 fun i x y e1 e2 => ?_
      rw [e1] at e2
      cases e2
      have hm := List.mem_of_getElem? e1
      have ea := ages_mem ha.2 hm
      rw [ea]
      exact s_same_self n x ea (by have := hgts_mem hm; omega) (sizDs_mem hs.2 hm) k (by omega)
    | tup xs =>
      simp only [D.age, D.tup.injEq] at ha
      simp only [hgt] at hh
      simp only [sizD, Bool.and_eq_true, decide_eq_true_eq] at hs
      refine s_same_tup k xs xs rfl hs.1 fun i x y e1 e2 => ?_
      rw [e1] at e2
      cases e2
      have hm := List.mem_of_getElem? e1
      have ea := ages_mem ha hm
      rw [ea]
      exact s_same_self n x ea (by have := hgts_mem hm; omega) (sizDs_mem hs.2 hm) k (by omega)
end Pg
set_option linter.all false
set_option maxRecDepth 100000
set_option maxHeartbeats 2000000
set_option Elab.async false
set_option pp.maxSteps 800
namespace Pg
open Rf Rv
open PySem (Str PyData)
/-- what is left, what is told behind answers -/
abbrev leftL (n : Nat) (ax row : List Nat) : List Nat := on ax (List.range' (lfA 0 row) (n - row.length))
abbrev toldL (n : Nat) (ax row : List Nat) : List Nat := on ax (tkI 0 n row).reverse
def endA (ax row : List Nat) : Nat := ax.getD (lfA 0 row) 0
def endB (n : Nat) (ax row : List Nat) : Nat := ax.getD (lfA 0 row + (n - row.length) - 1) 0
theorem left_len (n : Nat) (ax row : List Nat) : (leftL n ax row).length = n - row.length := by rw [on_len, List.length_range']
theorem told_len (n : Nat) (ax row : List Nat) : (toldL n ax row).length = row.length := by rw [on_len, List.length_reverse, tkI_len]
theorem left_at {n : Nat} {ax row : List Nat} (h : row.length < n) : (leftL n ax row)[0]? = some (endA ax row) ∧ L2.atI ((leftL n ax row).map fun k : Nat => D.int k) (-1) = some (.int (endB n ax row : Nat)) := by
  obtain ⟨m, hm⟩ : ∃ m, n - row.length = m + 1 := ⟨n - row.length - 1, by omega⟩
  have hne : leftL n ax row ≠ [] := fun z => by
    have := left_len n ax row
    rw [z] at this
    simp at this; omega
  constructor
  · unfold leftL endA
    rw [hm, on_cons]; rfl
  · rw [atI_m1 (by simpa using hne), List.getLast?_map]
    unfold leftL endB
    rw [hm, on_snoc]
    simp
theorem s_question (k : Nat) (hk : 8 ≤ k) (n m : Nat) (ax row : List Nat) (ha : Ord n ax) (h1 : 1 ≤ n) (h7 : n ≤ 7) (hr : Lets m row) (hm : m ≤ n - 1) : depth prog k I_question [.sh (rk .ol ax), .sh (rk .ol row)] = .ret (.fz (if m < n - 1 then .tup [.int (endA ax row : Nat), .int (endB n ax row : Nat)] else .non)) [.un, .un] := by
  obtain ⟨k, rfl⟩ := Nat.exists_eq_add_of_le hk; rw [Nat.add_comm]
  have hrl := hr.1
  have q1 := s_check_answers (k + 7) (by omega) n m ax row ha h1 h7 hr hm
  have q2 := s_left_by (k + 7) (by omega) n ax row ha (by omega) hr.2 (by omega)
  obtain ⟨a1, a2⟩ := left_at (n := n) (ax := ax) (row := row) (by omega)
  have lA := left_len n ax row
  unfold leftL at a1 a2 lA
  generalize on ax (List.range' (lfA 0 row) (n - row.length)) = A at *
  generalize on ax (tkI 0 n row).reverse = B at *
  refine depth_wp G_question rfl ?_
  by_cases c : m < n - 1
  · have c2 : (1 : Int) < ((n - row.length : Nat) : Int) := by omega
    rw [if_pos c]
    simp [q1, q2, lA, a1, a2, c2]
  · have c2 : ¬ (1 : Int) < ((n - row.length : Nat) : Int) := by omega
    rw [if_neg c]
    simp [q1, q2, lA, a1, a2, c2]
theorem s_told_part (k : Nat) (hk : 8 ≤ k) (n m : Nat) (ax row : List Nat) (ha : Ord n ax) (h1 : 1 ≤ n) (h7 : n ≤ 7) (hr : Lets m row) (hm : m < n - 1) : depth prog k I_told_so_far [.sh (rk .ol ax), .sh (rk .ol row)] = .ret (.fz (rk .nu (toldL n ax row))) [.un, .un] := by
  obtain ⟨k, rfl⟩ := Nat.exists_eq_add_of_le hk; rw [Nat.add_comm]
  have hrl := hr.1
  have q1 := s_check_answers (k + 7) (by omega) n m ax row ha h1 h7 hr (by omega)
  have q2 := s_left_by (k + 7) (by omega) n ax row ha (by omega) hr.2 (by omega)
  have lA := left_len n ax row
  unfold leftL at lA
  have c2 : ¬ ((n - row.length : Nat) : Int) = 1 := by omega
  unfold toldL
  generalize on ax (List.range' (lfA 0 row) (n - row.length)) = A at *
  generalize on ax (tkI 0 n row).reverse = B at *
  refine depth_wp G_told_so_far rfl ?_
  simp [q1, q2, lA, c2]
/-- what is no row of answers to an axis of n things -/
inductive NoAns (n : Nat) : D → Prop
  | non : NoAns n .non
  | int (i : Int) : NoAns n (.int i)
  | tup (xs : List D) : NoAns n (.tup xs)
  | dct : NoAns n .dct
  | len (xs : List D) : n ≤ xs.length → xs.length ≤ 100000 → NoAns n (.lst .ol xs)
  | item (xs : List D) : xs ≠ [] → xs.length ≤ 100000 → (∀ d ∈ xs, d = .non ∨ (∃ b, d = .bl b) ∨ d = .int 2) → NoAns n (.lst .ol xs)
theorem s_bad_answers (k : Nat) (hk : 7 ≤ k) (n : Nat) (ax : List Nat) (d : D) (ha : Ord n ax) (h1 : 1 ≤ n) (h7 : n ≤ 7) (hd : d.age = d) (h : NoAns n d) : depth prog k I_check_answers [.sh (rk .ol ax), .sh d] = .exn 3 d [.un, .un] := by
  obtain ⟨k, rfl⟩ := Nat.exists_eq_add_of_le hk; rw [Nat.add_comm]
  have q1 := s_check_line (k + 6) (by omega) n ax ha h1 h7
  have sn : small ((n : Int) - 1) = true := small_k (by omega) (by omega)
  refine depth_wp G_check_answers rfl ?_
  cases h with
  | non => simp [q1]
  | int i => simp [q1]
  | tup xs =>
    simp only [D.age, D.tup.injEq] at hd
    simp [q1, hd]
  | dct => simp [q1]
  | len xs h hb =>
    simp only [D.age, D.lst.injEq] at hd
    have q2 := s_no_letters (k + 6) (by omega) (n - 1) (.lst .ol xs) (.len xs (by omega))
    rw [show ((n - 1 : Nat) : Int) = (n : Int) - 1 by omega] at q2
    have e : (n : Int) - 1 < (xs.length : Int) := by omega
    simp [q1, ha.len, hd.2, e, q2, sn]
  | item xs h0 hb h =>
    simp only [D.age, D.lst.injEq] at hd
    by_cases c : (n : Int) - 1 < (xs.length : Int)
    · have q2 := s_no_letters (k + 6) (by omega) (n - 1) (.lst .ol xs) (.item xs h0 hb h)
      rw [show ((n - 1 : Nat) : Int) = (n : Int) - 1 by omega] at q2
      simp [q1, ha.len, hd.2, c, q2, sn]
    · have q2 := s_no_letters (k + 6) (by omega) xs.length (.lst .ol xs) (.item xs h0 hb h)
      simp [q1, ha.len, hd.2, c, q2, sn]
end Pg
set_option linter.all false
set_option maxRecDepth 100000
set_option maxHeartbeats 2000000
set_option Elab.async false
set_option pp.maxSteps 800
namespace Pg
open Rf Rv
open PySem (Str PyData)
def wrongAx : List D := [.non, .int 7, .tup [], .lst .nu [], .tup [.int 0, .int 1], .lst .nu [.int 1], .lst .nu [.int 0, .int 0], .lst .nu [.int 0, .int 2], .lst .nu [.int 0, .int 1, .int 3], .lst .nu [.bl true], .lst .nu [.non], .lst .nu [.str "0"], .lst .nu [.lst .nu [.int 0]], .lst .nu [.int (-1), .int 0], .lst .nu [.int 0, .int 1, .int 2, .int 3, .int 4, .int 5, .int 6, .int 7], .dct]
theorem s_wrong_axes (k : Nat) : depth prog (k + 1) I__law_wrong_axes [] = .ret (.nw wrongAx) [] := by kernel_rfl
theorem s_check_bad (k : Nat) : ∀ d ∈ wrongAx, depth prog (k + 6) I_check_line [.sh d.age] = .exn 2 d.age [.un] := by
  intro d h
  simp only [wrongAx, List.mem_cons, List.not_mem_nil, or_false] at h
  rcases h with rfl | rfl | rfl | rfl | rfl | rfl | rfl | rfl | rfl | rfl | rfl | rfl | rfl | rfl | rfl | rfl
  all_goals kernel_rfl
theorem wrongAx_txt : ∀ d ∈ wrongAx, Txt d.age := by
  have h : wrongAx.all (fun d => txtB d.age) = true := by decide +kernel
  exact fun d hd => txt_of (List.all_eq_true.mp h d hd)
theorem str_axis : PySem.PyData.strOk ("axis" : PySem.Str) = true := by decide +kernel
theorem lists_two (l : List (List Nat)) : lists? (l.map fun r => D.lst .nu [rk .nu (r ++ [0]), rk .nu (r ++ [1])]) = some (l.map fun r => [rk .nu (r ++ [0]), rk .nu (r ++ [1])]) := by
  induction l with
  | nil => rfl
  | cons r l ih =>
    simp only [List.map_cons, lists?, tracked, if_true, ih]
    rfl
theorem flat_two (l : List (List Nat)) : (l.map fun r => [rk .nu (r ++ [0]), rk .nu (r ++ [1])]).flatten = (l.flatMap fun r => [r ++ [0], r ++ [1]]).map fun r => rk .nu r := by
  induction l with
  | nil => rfl
  | cons r l ih => simp only [List.map_cons, List.flatten_cons, ih, List.flatMap_cons, List.map_append, List.map_nil]
theorem sum_rows {t : Nat} (h : (rowsL t).length ≤ 64) : Bi.run .sumL [.lst .nu ((rowsL t).map fun r => D.lst .nu [rk .nu (r ++ [0]), rk .nu (r ++ [1])])] = some (.new ((rowsL (t + 1)).map fun r => rk .nu r)) := by
  rw [bi_sumL', lists_two, Option.bind_some, flat_two]
  rw [if_pos (limk (by rw [List.length_map, two_len]; omega))]
  rfl
theorem s_all_peaked (k : Nat) (hk : 2 ≤ k) (n : Nat) (ax : List Nat) (ha : Ord n ax) (h1 : 1 ≤ n) (h7 : n ≤ 7) : depth prog k I__law_all_peaked [.sh (rk .ol ax)] = .ret (.nw ((lst n ax).map fun r => rk .nu r)) [.un] := by
  obtain ⟨k, rfl⟩ := Nat.exists_eq_add_of_le hk; rw [Nat.add_comm]
  have hlen := ha.len
  have sn : small ((n : Int) - 1) = true := small_k (by omega) (by omega)
  have rn : ranged 0 ((n : Int) - 1) = (List.range (n - 1)).map fun k : Nat => D.int k := by
    rw [show (n : Int) - 1 = ((n - 1 : Nat) : Int) by omega, ranged_nat]
  refine depth_wp G__law_all_peaked rfl ?_
  simp [hlen, sn, rn]
  refine wp_forL (fun k : Nat => D.int k) (fun rem δ => ∃ t x2, t + rem.length = n - 1 ∧ δ = [.sh (rk .ol ax), .sh (.lst .nu ((rowsL t).map fun r => rk .nu r)), x2, .un]) (List.range (n - 1)) _ ⟨0, .un, by simp, rfl⟩ ?_ ?_
  · rintro c rem δ ⟨t, x2, ht, rfl⟩
    have ht' : t + 1 + rem.length = n - 1 := by simp at ht; omega
    have htl : (rowsL t).length ≤ 64 := by rw [rowsL_len]; exact Nat.le_trans (Nat.pow_le_pow_right (by decide) (show t ≤ 6 by omega)) (by decide)
    simp
    refine wp_compF (fun r : List Nat => rk .nu r) (fun _ => true) (fun r : List Nat => D.lst .nu [rk .nu (r ++ [0]), rk .nu (r ++ [1])]) (rowsL t) wokN (fun r hr => ?_) ?_
    · have q1 := (rowsL_mem.mp hr).1
      have l1 := limk (n := r.length + 1) (by omega)
      simp [l1]
    · have l2 := limk (n := (rowsL t).length) (by omega)
      simp only [filter_yes, List.length_map, l2, true_and]
      have e3 := sum_rows (t := t) htl
      simp only [setAll, x_R0, e3]
      simp
      refine ⟨?_, t + 1, ht', ?_⟩
      · rw [← List.map_map, ← List.length_flatten, flat_two, List.length_map, two_len]; exact limk (by omega)
      · rw [flat_two]; rfl
  · rintro δ ⟨t, x2, ht, rfl⟩
    simp at ht
    subst ht
    have hrl : (rowsL (n - 1)).length ≤ 64 := by rw [rowsL_len]; exact Nat.le_trans (Nat.pow_le_pow_right (by decide) (show n - 1 ≤ 6 by omega)) (by decide)
    have lr := limk (n := (rowsL (n - 1)).length) (by omega)
    simp
    refine wp_compF (fun r : List Nat => rk .nu r) (fun _ => true) (fun r : List Nat => rk .nu (bye n ax r)) (rowsL (n - 1)) wokN (fun r hr => ?_) ?_
    · have hr := rowsL_mem.mp hr
      have q := s_law_by_ends (k + 1) (by omega) n ax r ha (by omega) hr.2 (by have := hr.1; omega)
      simp [q]
    · have es := sorted_lists .nu ((rowsL (n - 1)).map fun r => bye n ax r)
      rw [List.map_map] at es
      have ll := limk (n := (lst n ax).length) (by have := lst_len (n := n) h7 ax; omega)
      simp only [filter_yes, List.length_map, lr, true_and]
      have es' : Bi.run .sorted [.lst .nu ((rowsL (n - 1)).map fun r => rk .nu (bye n ax r))] = some (.new ((lst n ax).map fun r => rk .nu r)) := es
      have b1 : D.alike ((rowsL (n - 1)).map fun r => rk .nu (bye n ax r)) = true := by
        have := alike_lists .nu ((rowsL (n - 1)).map fun r => bye n ax r)
        rw [List.map_map] at this; exact this
      have b2 : D.sortk ((rowsL (n - 1)).map fun r => rk .nu (bye n ax r)) = true := by
        have := sortk_lists .nu ((rowsL (n - 1)).map fun r => bye n ax r)
        rw [List.map_map] at this; exact this
      simp [b1, b2] at es'
      simp [b1, b2, es']
end Pg
set_option linter.all false
set_option maxRecDepth 100000
set_option maxHeartbeats 2000000
set_option Elab.async false
set_option pp.maxSteps 800
namespace Pg
open Rf Rv
open PySem (Str PyData)
/-- an answer more -/
theorem ans_step {n : Nat} {ax pre : List Nat} {b : Nat} (ha : Ord n ax) (hb : b < 2) (hr : ∀ c ∈ pre, c < 2) (hl : pre.length + 1 < n) :
    endA ax pre ≠ endB n ax pre ∧ endA ax pre ∈ leftL n ax pre ∧ endB n ax pre ∈ leftL n ax pre ∧ toldL n ax (pre ++ [b]) = (if b = 0 then endA ax pre else endB n ax pre) :: toldL n ax pre ∧ leftL n ax (pre ++ [b]) = (leftL n ax pre).filter (fun a => !decide (a = if b = 0 then endA ax pre else endB n ax pre)) := by
  have hlf := lfA_le pre 0
  have hperm := tk_perm 0 n pre (by omega)
  have hmn : lfA 0 pre + (n - pre.length) ≤ n := by
    have : lfA 0 pre + (n - pre.length) - 1 ∈ List.range' 0 n := hperm.mem_iff.mp (List.mem_append_left _ (by rw [List.mem_range'_1]; omega))
    rw [List.mem_range'_1] at this; omega
  obtain ⟨m, hm⟩ : ∃ m, n - pre.length = m + 2 := ⟨n - pre.length - 2, by omega⟩
  have hne : endA ax pre ≠ endB n ax pre := fun z => by
    have := getD_inj ha (by omega) (by omega) z
    omega
  have mem : ∀ i, lfA 0 pre ≤ i → i < lfA 0 pre + (n - pre.length) → ax.getD i 0 ∈ leftL n ax pre := fun i h1 h2 => List.mem_map.mpr ⟨i, by rw [List.mem_range'_1]; omega, rfl⟩
  have hnd : (leftL n ax pre).Nodup := by
    unfold leftL on
    rw [List.Nodup, List.pairwise_map]
    refine List.Pairwise.imp_of_mem ?_ (List.nodup_range' (s := lfA 0 pre) (n := n - pre.length))
    intro a b h1 h2 h3 h4
    rw [List.mem_range'_1] at h1 h2
    exact h3 (getD_inj ha (by omega) (by omega) h4)
  refine ⟨hne, mem _ (by omega) (by omega), mem _ (by omega) (by omega), ?_, ?_⟩
  · unfold toldL
    rw [tkI_snoc, List.reverse_append]
    unfold on endA endB
    rw [List.map_append]
    by_cases c : b = 0
    · simp [c]
    · simp [c]
  · refine Exists.elim (end_step ha (a := lfA 0 pre) (m := m + 1) hb (by omega)) fun x H => ?_
    have h3 := H.2.2.1
    have h4 := H.2.2.2
    have ex : x = if b = 0 then endA ax pre else endB n ax pre := by
      rw [h3]
      unfold endA endB
      by_cases c : b = 0
      · simp [c]
      · simp only [if_neg c]; congr 1; omega
    have e5 : leftL n ax (pre ++ [b]) = on ax (List.range' (if b = 0 then lfA 0 pre + 1 else lfA 0 pre) (m + 1)) := by
      unfold leftL
      rw [lfA_snoc, List.length_append, List.length_singleton, show n - (pre.length + 1) = m + 1 by omega]
    rw [e5, ← h4, ← ex]
    unfold leftL at hnd ⊢
    rw [hm] at hnd ⊢
    rw [hnd.erase_eq_filter]
    apply List.filter_congr
    intro a _
    by_cases c : a = x <;> simp [c]
theorem bye_drop {n : Nat} {ax W : List Nat} (h : W.length < n) {t : Nat} (ht : t ≤ W.length) : (bye n ax W).drop (n - t) = toldL n ax (W.take t) := by
  unfold bye toldL
  unfold on
  rw [← List.map_drop, byI_drop h ht]
/-- which end stands behind -/
theorem ans_index {n : Nat} {ax W : List Nat} (ha : Ord n ax) (hW : Lets (n - 1) W) (h1 : 1 ≤ n) {t : Nat} (ht : t + 1 < n) {b : Nat} (hb : W[t]? = some b) :
    ((bye n ax W).idxOf (if b = 0 then endA ax (W.take t) else endB n ax (W.take t)) = n - 1 - t) ∧ (bye n ax W).idxOf (if b = 0 then endB n ax (W.take t) else endA ax (W.take t)) < n - 1 - t := by
  have hWl := hW.1
  have htk : (W.take t).length = t := by rw [List.length_take]; omega
  have hb2 : b < 2 := hW.2 b (List.mem_of_getElem? hb)
  have hpre : ∀ c ∈ W.take t, c < 2 := fun c hc => hW.2 c (List.mem_of_mem_take hc)
  obtain ⟨s1, s2, s3, s4, s5⟩ := ans_step (b := b) ha hb2 hpre (by rw [htk]; exact ht)
  have ets : W.take (t + 1) = W.take t ++ [b] := by
    rw [List.take_add_one, hb]; rfl
  have hO := (bye_pkd (row := W) ha (by omega)).1
  have hOl := hO.len
  have hd := bye_drop (n := n) (ax := ax) (W := W) (by omega) (t := t + 1) (by omega)
  rw [ets, s4] at hd
  have en : n - (t + 1) = n - 1 - t := by omega
  rw [en] at hd
  have nod : (bye n ax W).Nodup := (ord_few.mp hO).2.2
  have at1 : (bye n ax W)[n - 1 - t]? = some (if b = 0 then endA ax (W.take t) else endB n ax (W.take t)) := by
    have := congrArg (fun l : List Nat => l[0]?) hd
    simpa using this
  have key : ∀ y, y ∈ bye n ax W → y ∉ (bye n ax W).drop (n - 1 - t) → (bye n ax W).idxOf y < n - 1 - t := fun y hy hn => by
    have e := List.take_append_drop (n - 1 - t) (bye n ax W)
    have hm : y ∈ (bye n ax W).take (n - 1 - t) := by
      rw [← e] at hy
      rcases List.mem_append.mp hy with z | z
      · exact z
      · exact absurd z hn
    rw [← e, List.idxOf_append, if_pos hm]
    have := List.idxOf_lt_length_of_mem hm
    rw [List.length_take] at this
    omega
  have dis : ∀ y, y ∈ leftL n ax (W.take t) → y ∉ toldL n ax (W.take t) := fun y h2 h3 => by
    obtain ⟨i, hi, e1⟩ := List.mem_map.mp h2
    obtain ⟨j, hj, e2⟩ := List.mem_map.mp h3
    have hp := tk_perm 0 n (W.take t) (by rw [htk]; omega)
    have hi2 : i ∈ List.range' 0 n := hp.mem_iff.mp (List.mem_append_left _ hi)
    have hj0 := List.mem_reverse.mp hj
    have hj2 : j ∈ List.range' 0 n := hp.mem_iff.mp (List.mem_append_right _ hj0)
    rw [List.mem_range'_1] at hi2 hj2
    have := getD_inj ha (by omega) (by omega) (e1.trans e2.symm)
    subst this
    have nd := hp.nodup_iff.mpr List.nodup_range'
    exact (List.nodup_append.mp nd).2.2 _ hi _ hj0 rfl
  have memB : ∀ y, y ∈ leftL n ax (W.take t) → y ∈ bye n ax W := fun y h2 => by
    obtain ⟨i, hi, e1⟩ := List.mem_map.mp h2
    have hp := tk_perm 0 n (W.take t) (by rw [htk]; omega)
    have hi2 : i ∈ List.range' 0 n := hp.mem_iff.mp (List.mem_append_left _ hi)
    rw [List.mem_range'_1] at hi2
    exact hO.mem.mpr (by rw [← e1]; exact getD_lt ha (by omega))
  refine ⟨?_, ?_⟩
  · have hlt : n - 1 - t < (bye n ax W).length := by omega
    rw [List.getElem?_eq_getElem hlt] at at1
    rw [← Option.some.inj at1]
    exact nod.idxOf_getElem _ hlt
  · refine key _ (by split; exact memB _ s3; exact memB _ s2) ?_
    rw [hd]
    intro z
    rcases List.mem_cons.mp z with z | z
    · by_cases c : b = 0
      · simp only [if_pos c] at z; exact s1 z.symm
      · simp only [if_neg c] at z; exact s1 z
    · revert z
      split
      · exact dis _ s3
      · exact dis _ s2
end Pg
set_option linter.all false
set_option maxRecDepth 100000
set_option maxHeartbeats 2000000
set_option Elab.async false
set_option pp.maxSteps 800
namespace Rv
open Rf
/-- each of some terms -/
def allX (P : Ex → Prop) : Exs → Prop
  | .nil => True
  | .cons e es => P e ∧ allX P es
@[simp] theorem allX_nil (P : Ex → Prop) : allX P .nil = True := (rfl)
@[simp] theorem allX_cons (P : Ex → Prop) (e : Ex) (es : Exs) : allX P (.cons e es) = (P e ∧ allX P es) := (rfl)
mutual
/-- what is told is of use to `_law_same`: aged, of few items, not too high -/
def okZ : Nat → D → Bool
  | n + 1, .lst .ol xs => decide (xs.length ≤ 1000) && okZs n xs
  | n + 1, .tup xs => decide (xs.length ≤ 1000) && okZs n xs
  | _ + 1, .non => true
  | _ + 1, .bl _ => true
  | _ + 1, .int _ => true
  | _ + 1, .str x => PySem.PyData.strOk x
  | _, _ => false
def okZs : Nat → List D → Bool
  | _, [] => true
  | n, x :: xs => okZ n x && okZs n xs
end
@[simp] theorem okZ_lst (n : Nat) (xs : List D) : okZ (n + 1) (.lst .ol xs) = (decide (xs.length ≤ 1000) && okZs n xs) := by simp only [okZ]
@[simp] theorem okZ_tup (n : Nat) (xs : List D) : okZ (n + 1) (.tup xs) = (decide (xs.length ≤ 1000) && okZs n xs) := by simp only [okZ]
@[simp] theorem okZ_non (n : Nat) : okZ (n + 1) .non = true := by simp only [okZ]
@[simp] theorem okZ_bl (n : Nat) (b : Bool) : okZ (n + 1) (.bl b) = true := by simp only [okZ]
@[simp] theorem okZ_int (n : Nat) (b : Int) : okZ (n + 1) (.int b) = true := by simp only [okZ]
@[simp] theorem okZ_str (n : Nat) (b : PySem.Str) : okZ (n + 1) (.str b) = PySem.PyData.strOk b := by simp only [okZ]
@[simp] theorem okZs_nil (n : Nat) : okZs n [] = true := by simp only [okZs]
@[simp] theorem okZs_cons (n : Nat) (x : D) (xs : List D) : okZs n (x :: xs) = (okZ n x && okZs n xs) := by simp only [okZs]
theorem okZs_of {n : Nat} : ∀ {xs : List D}, (∀ x ∈ xs, okZ n x = true) → okZs n xs = true
  | [], _ => by simp
  | x :: xs, h => by
    rw [okZs_cons, h x List.mem_cons_self, okZs_of fun y hy => h y (List.mem_cons_of_mem _ hy)]; rfl
theorem okZs_mem {n : Nat} : ∀ {xs : List D} {x : D}, okZs n xs = true → x ∈ xs → okZ n x = true
  | _ :: _, _, h, m => by
    rw [okZs_cons, Bool.and_eq_true] at h
    rcases List.mem_cons.mp m with rfl | m
    · exact h.1
    · exact okZs_mem h.2 m
@[simp] theorem okZs_nats (n : Nat) (l : List Nat) : okZs (n + 1) (l.map fun k : Nat => D.int k) = true := okZs_of fun x hx => by
  obtain ⟨k, _, rfl⟩ := List.mem_map.mp hx; simp
@[simp] theorem okZs_ints (n : Nat) (l : List Int) : okZs (n + 1) (l.map D.int) = true := okZs_of fun x hx => by
  obtain ⟨k, _, rfl⟩ := List.mem_map.mp hx; simp
mutual
theorem okZ_age : ∀ (n : Nat) (z : D), okZ n z = true → z.age = z
  | 0, z, h => by cases z <;> simp [okZ] at h
  | n + 1, .lst f xs, h => by
    cases f <;> simp [okZ] at h
    simp only [D.age, okZs_age n xs h.2]; rfl
  | n + 1, .tup xs, h => by
    rw [okZ_tup, Bool.and_eq_true] at h
    simp only [D.age, okZs_age n xs h.2]
  | _ + 1, .non, _ => rfl
  | _ + 1, .bl _, _ => rfl
  | _ + 1, .int _, _ => rfl
  | _ + 1, .str _, _ => rfl
  | _ + 1, .dct, h => by simp [okZ] at h
  | _ + 1, .rng _ _, h => by simp [okZ] at h
theorem okZs_age : ∀ (n : Nat) (zs : List D), okZs n zs = true → D.ages zs = zs
  | _, [], _ => rfl
  | n, z :: zs, h => by
    rw [okZs_cons, Bool.and_eq_true] at h
    simp only [D.ages, okZ_age n z h.1, okZs_age n zs h.2]
end
end Rv
namespace Pg
open Rf Rv
open PySem (Str PyData)
theorem s_same_nz (k : Nat) (hk : 1 ≤ k) (z : D) (h : z = .non ∨ (∃ b, z = .bl b) ∨ (∃ i, z = .int i) ∨ (∃ x, z = .str x ∧ PyData.strOk x = true)) : depth prog k I__law_same [.sh z, .sh z] = .ret (.fz (.bl true)) [.un, .un] := by
  obtain ⟨k, rfl⟩ := Nat.exists_eq_add_of_le hk; rw [Nat.add_comm]
  refine depth_wp G__law_same rfl ?_
  rcases h with rfl | ⟨b, rfl⟩ | ⟨i, rfl⟩ | ⟨x, rfl, h⟩
  · simp
  · cases b <;> simp
  · simp
  · simp [h]
theorem s_same_ok : ∀ (n : Nat) (z : D), okZ n z = true → ∀ k, n ≤ k → depth prog k I__law_same [.sh z, .sh z] = .ret (.fz (.bl true)) [.un, .un]
  | 0, z, h, _, _ => by cases z <;> simp [okZ] at h
  | n + 1, z, h, k, hk => by
    obtain ⟨k, rfl⟩ : ∃ j, k = j + 1 := ⟨k - 1, by omega⟩
    cases z with
    | non => exact s_same_nz _ (by omega) _ (.inl rfl)
    | bl b => exact s_same_nz _ (by omega) _ (.inr (.inl ⟨b, rfl⟩))
    | int i => exact s_same_nz _ (by omega) _ (.inr (.inr (.inl ⟨i, rfl⟩)))
    | str x => exact s_same_nz _ (by omega) _ (.inr (.inr (.inr ⟨x, rfl, by simpa using h⟩)))
    | dct => simp [okZ] at h
    | rng a b => simp [okZ] at h
    | lst f xs =>
      cases f <;> simp [okZ] at h
      refine s_same_list k .ol .ol xs xs rfl h.1 fun i x y e1 e2 => ?_
      rw [e1] at e2
      cases e2
      have hz := okZs_mem h.2 (List.mem_of_getElem? e1)
      rw [okZ_age n x hz]
      exact s_same_ok n x hz k (by omega)
    | tup xs =>
      rw [okZ_tup, Bool.and_eq_true, decide_eq_true_eq] at h
      refine s_same_tup k xs xs rfl h.1 fun i x y e1 e2 => ?_
      rw [e1] at e2
      cases e2
      have hz := okZs_mem h.2 (List.mem_of_getElem? e1)
      rw [okZ_age n x hz]
      exact s_same_ok n x hz k (by omega)
/-- `_law_same` of what is told with itself -/
theorem same_z (z : D) (h : okZ 9 z = true) : depth prog 39 I__law_same [.sh z, .sh z] = .ret (.fz (.bl true)) [.un, .un] := s_same_ok 9 z h 39 (by omega)
theorem okZ_rk {n : Nat} {l : List Nat} (h : l.length ≤ 1000) : okZ (n + 2) (rk .ol l) = true := by simp [h]
theorem okZs_rks {n : Nat} {bs : List (List Nat)} (h : ∀ r ∈ bs, r.length ≤ 1000) : okZs (n + 2) (bs.map fun r => D.lst .ol (r.map fun k : Nat => D.int k)) = true := okZs_of fun x hx => by
  obtain ⟨r, hr, rfl⟩ := List.mem_map.mp hx
  exact okZ_rk (h r hr)
end Pg
set_option linter.all false
set_option maxRecDepth 100000
set_option maxHeartbeats 2000000
set_option Elab.async false
set_option pp.maxSteps 800
namespace Pg
open Rf Rv
open PySem (Str PyData)
/-- what is refused as asked -/
def refd (cf : CF) (ws : List Str) (w : Str) (d : D) (δ : Envr) (c : Ex) : Prop := wp (ev cf c) (δ.map lamS) (fun _ _ => False) (fun n d' _ => ws[n]? = some w ∧ d'.age = d.age)
theorem refV_ok {cf : CF} {al : Nat} {w : Str} {d dv : D} (hw : PyData.strOk w = true) (hal : cf al [.sh dv.age, .sh dv.age] = .ret (.fz (.bl true)) [.un, .un]) (e : d.age = dv.age) : refV cf al w d (.str w) dv = some true := refV_same hw e hal
theorem rfaq_ok {cf : CF} {al : Nat} {ws : List Str} {w : Str} {dv : D} {δ : Envr} {Q : Prop} (hw : PyData.strOk w = true) (hal : cf al [.sh dv.age, .sh dv.age] = .ret (.fz (.bl true)) [.un, .un]) (hQ : Q) : ∀ calls : Exs, allX (refd cf ws w dv δ) calls → rfaq cf al ws (.str w) dv δ Q calls
  | .nil, _ => hQ
  | .cons c r, h => by
    rw [rfaq_cons]
    refine wp_mono h.1 (fun _ _ z => z.elim) fun n d' δ' z => ?_
    rw [z.1, oq_some]
    exact ⟨refV_ok hw hal z.2, rfaq_ok hw hal hQ r h.2⟩
/-- a loop over what is wrong: each is refused by all calls -/
theorem bad_all {k : Nat} {β : Envr} {j : Nat} {calls : Exs} {w : Str} {ws : List Str} {Q : Out → Envr → Prop} {X : EX} (E : SV → Envr) [hL : ∀ x, Lit (E x)] (hE : ∀ x d, (E x).set j (.sh d) = E (.sh d)) (hG : ∀ d, (E (.sh d))[j]? = some (.sh d)) (hw : PyData.strOk w = true) (items : List D) (x0 : SV)
    (hi : ∀ d ∈ items, Txt d.age ∧ allX (refd (depth prog (k + 1)) ws w d (E (.sh d))) calls) (hq : ∀ x, Q .nx (E x)) :
    wp (forL (fbody (depth prog (k + 1)) β (.nm j) (.cons (.ite (.not (.rfa calls (.str w) (.var j) I__law_alike ws)) (.cons (.ret (.bl false)) .nil) .nil) .nil)) items) (E x0) Q X := by
  rw [← List.map_id items]
  refine wp_forL id (fun rem δ => (∀ d ∈ rem, d ∈ items) ∧ ∃ x, δ = E x) items _ ⟨fun _ h => h, x0, rfl⟩ ?_ ?_
  · rintro d rem δ ⟨hr, x, rfl⟩
    obtain ⟨b1, b2⟩ := hi d (hr d List.mem_cons_self)
    have hal := s_alike (k + 1) (by omega) d.age b1
    simp only [id, x_fbody, x_put_nm, hE]
    simp [hG]
    refine rfaq_ok hw hal ?_ calls b2
    exact ⟨fun z hz => hr z (List.mem_cons_of_mem _ hz), _, rfl⟩
  · rintro δ ⟨_, x, rfl⟩
    exact hq x
/-- the same for one call -/
theorem bad_one {k : Nat} {β : Envr} {j : Nat} {call : Ex} {w : Str} {ws : List Str} {Q : Out → Envr → Prop} {X : EX} (E : SV → Envr) [hL : ∀ x, Lit (E x)] (hE : ∀ x d, (E x).set j (.sh d) = E (.sh d)) (hG : ∀ d, (E (.sh d))[j]? = some (.sh d)) (hw : PyData.strOk w = true) (items : List D) (x0 : SV)
    (hi : ∀ d ∈ items, Txt d.age ∧ refd (depth prog (k + 1)) ws w d (E (.sh d)) call) (hq : ∀ x, Q .nx (E x)) :
    wp (forL (fbody (depth prog (k + 1)) β (.nm j) (.cons (.ite (.not (.rfd call (.str w) (.var j) I__law_alike ws)) (.cons (.ret (.bl false)) .nil) .nil) .nil)) items) (E x0) Q X := by
  rw [← List.map_id items]
  refine wp_forL id (fun rem δ => (∀ d ∈ rem, d ∈ items) ∧ ∃ x, δ = E x) items _ ⟨fun _ h => h, x0, rfl⟩ ?_ ?_
  · rintro d rem δ ⟨hr, x, rfl⟩
    obtain ⟨b1, b2⟩ := hi d (hr d List.mem_cons_self)
    have hal := s_alike (k + 1) (by omega) d.age b1
    simp only [id, x_fbody, x_put_nm, hE]
    simp [hG]
    refine wp_mono b2 (fun _ _ z => z.elim) fun n d' δ' z => ?_
    rw [z.1, oq_some, refV_ok hw hal z.2]
    simp
    exact ⟨fun z hz => hr z (List.mem_cons_of_mem _ hz), _, rfl⟩
  · rintro δ ⟨_, x, rfl⟩
    exact hq x
end Pg
set_option linter.all false
set_option maxRecDepth 100000
set_option Elab.async false
namespace Pg
open PySem Rf
/-! law(script): 0 script, 1 generator, 2 turn, 3 bad, 4 axis, 5 told, 6 drawn, 7 ranking, 8 kept, 9 left, 10 row, 11 every, 12 ends, 13 due, 14 shown, 15 last, 16 thing, 17 one -/
def S_law_6 : Sts := (.cons (.ret (.call I__law_same [] (.cons (.var 5) (.cons (.lst (.cons (.tup (.cons (.int 0) (.cons (.int 3) .nil))) (.cons (.tup (.cons (.int 1) (.cons (.int 3) .nil))) (.cons .non (.cons (.lst (.cons (.int 0) .nil)) (.cons (.lst (.cons (.int 2) (.cons (.int 1) (.cons (.int 3) (.cons (.int 0) .nil))))) (.cons (.int 4) (.cons (.lst (.cons (.int 0) (.cons (.int 1) (.cons (.int 0) .nil)))) (.cons (.lst (.cons (.int 0) .nil)) .nil))))))))) .nil)))) .nil)
def S_law_5 : Sts := (.cons (.asg false 5 (.bin .add (.var 5) (.lst (.cons (.call I_answers_of [] (.cons (.var 4) (.cons (.lst (.cons (.int 2) (.cons (.int 1) (.cons (.int 3) (.cons (.int 0) .nil))))) .nil))) (.cons (.call I_told_so_far [] (.cons (.lst (.cons (.int 0) .nil)) (.cons (.lst .nil) .nil))) .nil))))) S_law_6)
def S_law_4 : Sts := (.cons (.asg false 5 (.lst (.cons (.call I_question [] (.cons (.var 4) (.cons (.lst .nil) .nil))) (.cons (.call I_question [] (.cons (.var 4) (.cons (.lst (.cons (.int 0) .nil)) .nil))) (.cons (.call I_question [] (.cons (.var 4) (.cons (.lst (.cons (.int 0) (.cons (.int 1) (.cons (.int 0) .nil)))) .nil))) (.cons (.call I_told_so_far [] (.cons (.var 4) (.cons (.lst (.cons (.int 0) .nil)) .nil))) (.cons (.call I_told_so_far [] (.cons (.var 4) (.cons (.lst (.cons (.int 0) (.cons (.int 1) (.cons (.int 0) .nil)))) .nil))) (.cons (.call I_open_rankings [] (.cons (.var 4) (.cons (.lst (.cons (.int 0) .nil)) .nil))) .nil)))))))) S_law_5)
def S_law_3 : Sts := (.cons (.asg false 4 (.lst (.cons (.int 0) (.cons (.int 1) (.cons (.int 2) (.cons (.int 3) .nil)))))) S_law_4)
def S_law_2x_0 : Sts := (.cons (.ite (.not (.rfa (.cons (.call I_question [] (.cons (.var 3) (.cons .non .nil))) (.cons (.call I_told_so_far [] (.cons (.var 3) (.cons .non .nil))) (.cons (.call I_open_rankings [] (.cons (.var 3) (.cons .non .nil))) (.cons (.call I_answers_of [] (.cons (.var 3) (.cons .non .nil))) .nil)))) (.str "axis") (.var 3) I__law_alike ["ballots", "ranking", "axis", "row", "counts", "number", "places", "voter", "thing", "things", "names", "text", "beats", "edit", "unpeaked", "many"])) (.cons (.ret (.bl false)) .nil) .nil) .nil)
def S_law_2 : Sts := (.cons (.for_ (.nm 3) (.seq (.call I__law_wrong_axes [] .nil)) S_law_2x_0) S_law_3)
def S_law_1x_10x_0 : Sts := (.cons (.ite (.not (.rfd (.call I_answers_of [] (.cons (.var 4) (.cons (.var 3) .nil))) (.str "ranking") (.var 3) I__law_alike ["ballots", "ranking", "axis", "row", "counts", "number", "places", "voter", "thing", "things", "names", "text", "beats", "edit", "unpeaked", "many"])) (.cons (.ret (.bl false)) .nil) .nil) .nil)
def S_law_1x_10 : Sts := (.cons (.for_ (.nm 3) (.seq (.call I__law_wrong_rankings [] (.cons (.bi .len (.cons (.var 4) .nil)) .nil))) S_law_1x_10x_0) .nil)
def S_law_1x_9x_0 : Sts := (.cons (.ite (.not (.rfa (.cons (.call I_question [] (.cons (.var 4) (.cons (.var 3) .nil))) (.cons (.call I_told_so_far [] (.cons (.var 4) (.cons (.var 3) .nil))) (.cons (.call I_open_rankings [] (.cons (.var 4) (.cons (.var 3) .nil))) .nil))) (.str "row") (.var 3) I__law_alike ["ballots", "ranking", "axis", "row", "counts", "number", "places", "voter", "thing", "things", "names", "text", "beats", "edit", "unpeaked", "many"])) (.cons (.ret (.bl false)) .nil) .nil) .nil)
def S_law_1x_9 : Sts := (.cons (.for_ (.nm 3) (.seq (.lst (.cons .non (.cons (.int 7) (.cons (.tup .nil) (.cons (.bi .toTuple (.cons (.var 10) .nil)) (.cons (.bin .add (.var 10) (.lst (.cons (.int 0) .nil))) (.cons (.lst (.cons (.int 2) .nil)) (.cons (.lst (.cons (.bl true) .nil)) (.cons (.lst (.cons .non .nil)) (.cons .dct .nil))))))))))) S_law_1x_9x_0) S_law_1x_10)
def S_law_1x_8 : Sts := (.cons (.ite (.bop true (.cons (.not (.call I__law_peaked [] (.cons (.var 6) (.cons (.var 4) .nil)))) (.cons (.not (.rfd (.call I_answers_of [] (.cons (.var 4) (.cons (.var 6) .nil))) (.str "unpeaked") (.var 6) I__law_alike ["ballots", "ranking", "axis", "row", "counts", "number", "places", "voter", "thing", "things", "names", "text", "beats", "edit", "unpeaked", "many"])) .nil))) (.cons (.ret (.bl false)) .nil) .nil) S_law_1x_9)
def S_law_1x_7 : Sts := (.cons (.asg false 6 (.call I__law_drawn_order [] (.cons (.ioa 1) (.cons (.var 4) .nil)))) S_law_1x_8)
def S_law_1x_6 : Sts := (.cons (.ite (.bop false (.cons (.cmp .ne (.bi .len (.cons (.var 11) .nil)) (.call I_open_rankings [] (.cons (.var 4) (.cons (.lst .nil) .nil)))) (.cons (.not (.call I__law_same [] (.cons (.call I_answers_of [] (.cons (.var 4) (.cons (.var 7) .nil))) (.cons (.var 10) .nil)))) (.cons (.cmp .ne (.bi .repr (.cons (.var 4) .nil)) (.var 8)) .nil)))) (.cons (.ret (.bl false)) .nil) .nil) S_law_1x_7)
def S_law_1x_5 : Sts := (.cons (.ex (.apf (.call I_answers_of [] (.cons (.var 4) (.cons (.var 7) .nil))) (.int 7))) S_law_1x_6)
def S_law_1x_4 : Sts := (.cons (.ite (.not (.call I__law_same [] (.cons (.lst (.cons (.call I_question [] (.cons (.var 4) (.cons (.var 10) .nil))) (.cons (.call I_told_so_far [] (.cons (.var 4) (.cons (.var 10) .nil))) (.cons (.call I_open_rankings [] (.cons (.var 4) (.cons (.var 10) .nil))) (.cons (.call I_answers_of [] (.cons (.var 4) (.cons (.var 7) .nil))) (.cons (.call I_answers_of [1, 0] (.cons (.var 7) (.cons (.var 4) .nil))) .nil)))))) (.cons (.lst (.cons .non (.cons (.var 7) (.cons (.int 1) (.cons (.var 10) (.cons (.var 10) .nil)))))) .nil)))) (.cons (.ret (.bl false)) .nil) .nil) S_law_1x_5)
def S_law_1x_3xk_2 : Sts := (.cons (.scr [0, 1, 2, 3, 4, 5, 6, 7, 8, 9, 10, 11, 12, 13, 15] (.idx (.var 14) (.int 1)) (.int 7)) .nil)
def S_law_1x_3xk_1 : Sts := (.cons (.ite (.bop false (.cons (.not (.call I__law_same [] (.cons (.var 14) (.cons (.var 13) .nil)))) (.cons (.not (.call I__law_same [] (.cons (.lst (.cons (.call I_question [1, 0] (.cons (.var 10) (.cons (.var 4) .nil))) (.cons (.call I_told_so_far [1, 0] (.cons (.var 10) (.cons (.var 4) .nil))) (.cons (.call I_open_rankings [1, 0] (.cons (.var 10) (.cons (.var 4) .nil))) .nil)))) (.cons (.var 13) .nil)))) .nil))) (.cons (.ret (.bl false)) .nil) .nil) S_law_1x_3xk_2)
def S_law_1x_3xk_0 : Sts := (.cons (.asg false 14 (.lst (.cons (.call I_question [] (.cons (.var 4) (.cons (.var 10) .nil))) (.cons (.call I_told_so_far [] (.cons (.var 4) (.cons (.var 10) .nil))) (.cons (.call I_open_rankings [] (.cons (.var 4) (.cons (.var 10) .nil))) .nil))))) S_law_1x_3xk_1)
def S_law_1x_3xr_2 : Sts := (.cons (.par [false, false, false] [10, 5, 9] (.cons (.bin .add (.var 10) (.lst (.cons (.bi .int (.cons (.cmp .eq (.var 15) (.idx (.var 12) (.int 1))) .nil)) .nil))) (.cons (.bin .add (.lst (.cons (.var 15) .nil)) (.var 5)) (.cons (.comp (.nm 16) (.seq (.var 9)) (.cons (.cmp .ne (.var 16) (.var 15)) .nil) (.var 16)) .nil)))) .nil)
def S_law_1x_3xr_1 : Sts := (.cons (.asg false 15 (.ite (.cmp .gt (.mt .index (.var 7) (.cons (.idx (.var 12) (.int 0)) .nil)) (.mt .index (.var 7) (.cons (.idx (.var 12) (.int 1)) .nil))) (.idx (.var 12) (.int 0)) (.idx (.var 12) (.int 1)))) S_law_1x_3xr_2)
def S_law_1x_3xr_0 : Sts := (.cons (.ite (.not (.call I__law_same [] (.cons (.call I_told_so_far [] (.cons (.var 4) (.cons (.var 10) .nil))) (.cons (.var 5) .nil)))) (.cons (.ret (.bl false)) .nil) .nil) S_law_1x_3xr_1)
def S_law_1x_3x_2 : Sts := (.blk [0, 1, 2, 3, 4, 5, 6, 7, 8, 9, 10, 11, 12, 13, 15] S_law_1x_3xk_0 S_law_1x_3xr_0)
def S_law_1x_3x_1 : Sts := (.cons (.asg false 13 (.lst (.cons (.var 12) (.cons (.var 5) (.cons (.bi .len (.cons (.comp (.nm 17) (.seq (.var 11)) (.cons (.cmp .eq (.slc (.var 17) (.so (.bin .sub (.bi .len (.cons (.var 17) .nil)) (.bi .len (.cons (.var 5) .nil)))) .no) (.var 5)) .nil) (.var 17)) .nil)) .nil))))) S_law_1x_3x_2)
def S_law_1x_3x_0 : Sts := (.cons (.asg false 12 (.tup (.cons (.idx (.var 9) (.int 0)) (.cons (.idx (.var 9) (.neg (.int 1))) .nil)))) S_law_1x_3x_1)
def S_law_1x_3 : Sts := (.cons (.whl (.cmp .gt (.bi .len (.cons (.var 9) .nil)) (.int 1)) S_law_1x_3x_0) S_law_1x_4)
def S_law_1x_2 : Sts := (.cons (.par [false, false, false, false] [9, 5, 10, 11] (.cons (.lcp (.var 4)) (.cons (.lst .nil) (.cons (.lst .nil) (.cons (.call I__law_all_peaked [] (.cons (.var 4) .nil)) .nil))))) S_law_1x_3)
def S_law_1x_1 : Sts := (.cons (.par [false, false] [7, 8] (.cons (.call I__law_peaked_drawn [] (.cons (.ioa 1) (.cons (.var 4) .nil))) (.cons (.bi .repr (.cons (.var 4) .nil)) .nil))) S_law_1x_2)
def S_law_1x_0 : Sts := (.cons (.asg false 4 (.call I__law_axis [] (.cons (.ioa 1) (.cons (.int 7) .nil)))) S_law_1x_1)
def S_law_1 : Sts := (.cons (.for_ (.nm 2) (.rng1 (.int 2)) S_law_1x_0) S_law_2)
def S_law_0 : Sts := (.cons (.asg true 1 (.call I__law_generator [] (.cons (.var 0) (.cons (.int 0) .nil)))) S_law_1)
theorem G'_law : prog[I_law]? = some ⟨1, 18, [0], S_law_0⟩ := rfl
end Pg
set_option linter.all false
set_option maxRecDepth 100000
set_option maxHeartbeats 2000000
set_option Elab.async false
set_option pp.maxSteps 1500
namespace Pg
open Rf Rv
open PySem (Str PyData)
theorem nu_ol {f : Lb} (h : f = .nu ∨ f = .ol) : tracked f = true ∧ f.age = .ol := by
  rcases h with rfl | rfl <;> exact ⟨rfl, rfl⟩
theorem rks_age (f g : Lb) (h : f = .nu ∨ f = .ol) (h2 : g = .nu ∨ g = .ol) (bs : List (List Nat)) : (rks f g bs).age = rks .ol .ol bs := by
  rw [show (rks f g bs).age = .lst f.age (D.ages (bs.map fun r => rk g r)) from by simp only [D.age]]
  rw [(nu_ol h).2]
  congr 1
  rw [ages_map]
  apply List.map_congr_left
  intro a _
  simp only [D.age, ages_nats, (nu_ol h2).2]
/-- a turn of asking -/
theorem ask_turn {n : Nat} {ax W : List Nat} (ha : Ord n ax) (hW : Lets (n - 1) W) (h1 : 1 ≤ n) (h7 : n ≤ 7) {t : Nat} (ht : t + 1 < n) {f : Lb} (hf : f = .nu ∨ f = .ol) {β : Envr} {Q : Out → Envr → Prop} {X : EX} (script turn kept : D) (G : Gen) (x3 x6 x12 x13 x14 x15 : SV)
    (hq : ∀ x3 x6 x12 x13 x14 x15, Q .nx [.sh script.age, .ow G.ds, .sh turn.age, x3, .sh (rk .ol ax), .sh (rk .nu (toldL n ax (W.take (t + 1)))), x6, .sh (rk .ol (bye n ax W)), .sh kept.age, .sh (rk .nu (leftL n ax (W.take (t + 1)))), .sh (rk .nu (W.take (t + 1))), .sh (rks .ol .ol (lst n ax)), x12, x13, x14, x15, .un, .un]) :
    wp (execs (depth prog 39) β S_law_1x_3x_0) [.sh script, .ow G.ds, .sh turn, x3, .sh (rk f ax), .sh (rk .nu (toldL n ax (W.take t))), x6, .sh (rk f (bye n ax W)), .sh kept, .sh (rk .nu (leftL n ax (W.take t))), .sh (rk .nu (W.take t)), .sh (rks f f (lst n ax)), x12, x13, x14, x15, .un, .un] Q X := by
  have hWl := hW.1
  have htk : (W.take t).length = t := by rw [List.length_take]; omega
  have hpre : ∀ c ∈ W.take t, c < 2 := fun c hc => hW.2 c (List.mem_of_mem_take hc)
  have hrow : Lets t (W.take t) := ⟨htk, hpre⟩
  obtain ⟨b, hb⟩ : ∃ b, W[t]? = some b := ⟨_, List.getElem?_eq_getElem (by omega)⟩
  have hb2 : b < 2 := hW.2 b (List.mem_of_getElem? hb)
  obtain ⟨s1, s2, s3, s4, s5⟩ := ans_step (b := b) ha hb2 hpre (by rw [htk]; exact ht)
  have six := ans_index ha hW h1 ht hb
  have ets : W.take (t + 1) = W.take t ++ [b] := by rw [List.take_add_one, hb]; rfl
  have q1 := s_question 39 (by omega) n t ax (W.take t) ha h1 h7 hrow (by omega)
  rw [if_pos (by omega)] at q1
  have q2 := s_told_part 39 (by omega) n t ax (W.take t) ha h1 h7 hrow (by omega)
  have q3 := s_open_rankings 39 (by omega) n t ax (W.take t) ha h1 h7 hrow (by omega)
  obtain ⟨a1, a2⟩ := left_at (n := n) (ax := ax) (row := W.take t) (by omega)
  have lA := left_len n ax (W.take t)
  have lT := told_len n ax (W.take t)
  have hO := (bye_pkd (row := W) ha (by omega)).1
  have cnt := known_count ha h1 h7 hW (m := t) (by omega)
  rw [bye_drop (n := n) (ax := ax) (W := W) (by omega) (by omega)] at cnt
  have mA : endA ax (W.take t) ∈ bye n ax W := hO.mem.mpr (by
    obtain ⟨i, hi, e⟩ := List.mem_map.mp s2
    rw [← e]; exact getD_lt ha (by
      have hp := tk_perm 0 n (W.take t) (by omega)
      have := hp.mem_iff.mp (List.mem_append_left _ hi)
      rw [List.mem_range'_1] at this; omega))
  have mB : endB n ax (W.take t) ∈ bye n ax W := hO.mem.mpr (by
    obtain ⟨i, hi, e⟩ := List.mem_map.mp s3
    rw [← e]; exact getD_lt ha (by
      have hp := tk_perm 0 n (W.take t) (by omega)
      have := hp.mem_iff.mp (List.mem_append_left _ hi)
      rw [List.mem_range'_1] at this; omega))
  have fA := find_nats (bye n ax W) _ mA
  have fB := find_nats (bye n ax W) _ mB
  have hRl := hO.len
  rw [ets, s4, s5] at hq
  have hl2 := lst_len (n := n) h7 ax
  have lm : ∀ r ∈ lst n ax, r.length = n := fun r hr => by
    obtain ⟨u, hu, rfl⟩ := lst_mem.mp hr
    exact (bye_pkd (row := u) ha (by have := hu.1; omega)).1.len
  generalize toldL n ax (W.take t) = T at *
  generalize leftL n ax (W.take t) = L at *
  generalize bye n ax W = R at *
  generalize endA ax (W.take t) = A at *
  generalize endB n ax (W.take t) = B at *
  generalize W.take t = row at *
  generalize lst n ax = E at *
  have lE := limk (n := E.length) (by omega)
  unfold S_law_1x_3x_0 S_law_1x_3x_1 S_law_1x_3x_2
  simp [a1, a2]
  refine wp_compF (fun r : List Nat => rk f r) (fun r => decide (r.drop (n - t) = T)) (fun r : List Nat => rk f r) E wokN (fun r hr => ?_) ?_
  · have e1 : (r.length : Int) - (T.length : Int) = ((n - t : Nat) : Int) := by rw [lm r hr, lT, htk]; omega
    simp [e1, cutG_map, cutG_fromN, eqs_drop]
  · have lf := limk (n := (E.filter fun r => decide (r.drop (n - t) = T)).length) (Nat.le_trans (List.length_filter_le _ _) (by omega))
    have fa := nu_ol hf
    have hp2 : 2 ^ (n - 1 - t) ≤ 2 ^ 6 := Nat.pow_le_pow_right (by decide) (by omega)
    have lp := limk (n := 2 ^ (n - 1 - t)) (by omega)
    have lt1 : t ≤ 1000 := by omega
    have lt2 := limk' (n := t) (by omega)
    have lt3 := limk (n := t + 1) (by omega)
    have lt4 := limk (n := 1 + t) (by omega)
    have lL := List.length_filter_le (fun a => !decide (a = if b = 0 then A else B)) L
    have lL2 := limk (n := (L.filter (fun a => !decide (a = if b = 0 then A else B))).length) (by omega)
    unfold S_law_1x_3xk_0 S_law_1x_3xk_1 S_law_1x_3xk_2 S_law_1x_3xr_0 S_law_1x_3xr_1 S_law_1x_3xr_2
    have hb01 : b = 0 ∨ b = 1 := by omega
    rcases hb01 with rfl | rfl
    · simp only [if_true] at six hq
      have c1 : R.idxOf B < R.idxOf A := by omega
      simp [lf, fa.1, fa.2, q1, q2, q3, cnt, same_z, lT, htk, lp, lt1, lt2, lt3, lt4, fA, fB, c1, s1]
      refine wp_compF (fun k : Nat => D.int k) (fun a => !decide (a = A)) (fun k : Nat => D.int k) L wokN (fun a ha => ?_) ?_
      · simp
      · simp only [if_true] at lL2
        simp [rk] at hq
        simp [lL2]
        exact hq _ _ _ _ _ _
    · simp only [Nat.one_ne_zero, if_false] at six hq
      have c1 : ¬ R.idxOf B < R.idxOf A := by omega
      simp [lf, fa.1, fa.2, q1, q2, q3, cnt, same_z, lT, htk, lp, lt1, lt2, lt3, lt4, fA, fB, c1]
      refine wp_compF (fun k : Nat => D.int k) (fun a => !decide (a = B)) (fun k : Nat => D.int k) L wokN (fun a ha => ?_) ?_
      · simp
      · simp only [Nat.one_ne_zero, if_false] at lL2
        simp [rk] at hq
        simp [lL2]
        exact hq _ _ _ _ _ _
end Pg
set_option linter.all false
set_option maxRecDepth 100000
set_option maxHeartbeats 2000000
set_option Elab.async false
set_option pp.maxSteps 2500
namespace Pg
open Rf Rv
open PySem (Str PyData)
/-- the asking, whole -/
theorem ask_loop {n : Nat} {ax W : List Nat} (ha : Ord n ax) (hW : Lets (n - 1) W) (h1 : 1 ≤ n) (h7 : n ≤ 7) {β : Envr} {Q : Out → Envr → Prop} {X : EX} (script turn kept : D) (hs : script.age = script) (ht : turn.age = turn) (hk : kept.age = kept) (G : Gen) (x3 x6 x12 x13 x14 x15 : SV)
    (hq : ∀ f x3 x6 x12 x13 x14 x15, f = Lb.nu ∨ f = Lb.ol → Q .nx [.sh script, .ow G.ds, .sh turn, x3, .sh (rk f ax), .sh (rk .nu (toldL n ax W)), x6, .sh (rk f (bye n ax W)), .sh kept, .sh (rk .nu (leftL n ax W)), .sh (rk .nu W), .sh (rks f f (lst n ax)), x12, x13, x14, x15, .un, .un]) :
    wp (whileL (wtest (depth prog 39) (.cmp .gt (.bi .len (.cons (.var 9) .nil)) (.int 1))) (execs (depth prog 39) β S_law_1x_3x_0) turns) [.sh script, .ow G.ds, .sh turn, x3, .sh (rk .nu ax), .sh (rk .nu []), x6, .sh (rk .nu (bye n ax W)), .sh kept, .sh (rk .nu ax), .sh (rk .nu []), .sh (rks .nu .nu (lst n ax)), x12, x13, x14, x15, .un, .un] Q X := by
  have hWl := hW.1
  refine wp_whileL (fun m δ => ∃ t f x3 x6 x12 x13 x14 x15, t + m = n - 1 ∧ (f = Lb.nu ∨ f = Lb.ol) ∧ δ = [.sh script, .ow G.ds, .sh turn, x3, .sh (rk f ax), .sh (rk .nu (toldL n ax (W.take t))), x6, .sh (rk f (bye n ax W)), .sh kept, .sh (rk .nu (leftL n ax (W.take t))), .sh (rk .nu (W.take t)), .sh (rks f f (lst n ax)), x12, x13, x14, x15, .un, .un]) _ (n - 1) _ (by unfold turns; omega) ⟨0, .nu, x3, x6, x12, x13, x14, x15, by omega, .inl rfl, ?_⟩ ?_
  · have e1 : leftL n ax (W.take 0) = ax := by
      unfold leftL
      simp only [List.take_zero, lfA, List.length_nil, Nat.sub_zero]
      have := on_range ha
      rwa [List.range_eq_range'] at this
    have e2 : toldL n ax (W.take 0) = [] := rfl
    rw [e1, e2]; rfl
  · rintro m δ ⟨t, f, x3, x6, x12, x13, x14, x15, htm, hf, rfl⟩
    have htk : (W.take t).length = t := by rw [List.length_take]; omega
    have lA := left_len n ax (W.take t)
    by_cases c : m = 0
    · have e : W.take t = W := List.take_of_length_le (by omega)
      have c2 : ¬ (1 : Int) < ((leftL n ax (W.take t)).length : Int) := by omega
      simp [c2]
      rw [e]
      exact hq f _ _ _ _ _ _ hf
    · have c2 : (1 : Int) < ((leftL n ax (W.take t)).length : Int) := by omega
      simp [c2]
      refine ask_turn ha hW h1 h7 (t := t) (by omega) hf script turn kept G _ _ _ _ _ _ fun y3 y6 y12 y13 y14 y15 => ?_
      rw [hs, ht, hk]
      exact ⟨m - 1, by omega, t + 1, by omega, .inr ⟨_, _, _, _, _, _, rfl⟩⟩
end Pg
set_option linter.all false
set_option maxRecDepth 100000
set_option maxHeartbeats 2000000
set_option Elab.async false
set_option pp.maxSteps 2500
namespace Pg
open Rf Rv
open PySem (Str PyData)
abbrev ws16 : List Str := ["ballots", "ranking", "axis", "row", "counts", "number", "places", "voter", "thing", "things", "names", "text", "beats", "edit", "unpeaked", "many"]
/-- what is no row of answers is refused by all three -/
theorem bad_rows {n : Nat} {ax : List Nat} (ha : Ord n ax) (h1 : 1 ≤ n) (h7 : n ≤ 7) {d : D} (h : NoAns n d.age) : depth prog 39 I_question [.sh (rk .ol ax), .sh d.age] = .exn 3 d.age [.un, .un] ∧ depth prog 39 I_told_so_far [.sh (rk .ol ax), .sh d.age] = .exn 3 d.age [.un, .un] ∧ depth prog 39 I_open_rankings [.sh (rk .ol ax), .sh d.age] = .exn 3 d.age [.un, .un] := by
  have q := s_bad_answers 38 (by omega) n ax d.age ha h1 h7 (age_age d) h
  refine ⟨?_, ?_, ?_⟩
  · refine depth_wp G_question rfl ?_
    simp [q, age_age]
  · refine depth_wp G_told_so_far rfl ?_
    simp [q, age_age]
  · refine depth_wp G_open_rankings rfl ?_
    simp [q, age_age]
/-- what is wrong for a row of answers -/
def badRows (W : List Nat) : List D := [.non, .int 7, .tup [], .tup (W.map fun k : Nat => D.int k), .lst .nu (W.map (fun k : Nat => D.int k) ++ [.int 0]), .lst .nu [.int 2], .lst .nu [.bl true], .lst .nu [.non], .dct]
theorem badRows_ok {n : Nat} {W : List Nat} (h1 : 1 ≤ n) (h7 : n ≤ 7) (hW : Lets (n - 1) W) : ∀ d ∈ badRows W, NoAns n d.age ∧ Txt d.age := by
  intro d hd
  have hWl := hW.1
  have hlt : ∀ a ∈ W, a < 100 := fun a h => by have := hW.2 a h; omega
  simp only [badRows, List.mem_cons, List.not_mem_nil, or_false] at hd
  rcases hd with rfl | rfl | rfl | rfl | rfl | rfl | rfl | rfl | rfl
  · exact ⟨.non, txt_of (by decide +kernel)⟩
  · exact ⟨.int 7, txt_of (by decide +kernel)⟩
  · exact ⟨.tup _, txt_of (by decide +kernel)⟩
  · simp only [D.age, ages_nats]
    refine ⟨.tup _, .inr ⟨by simp only [plainD]; exact plain_nats hlt, by simp, ?_⟩⟩
    simp only [wtD, wt_nats]; omega
  · rw [show W.map (fun k : Nat => D.int k) ++ [.int 0] = (W ++ [0]).map fun k : Nat => D.int k by simp]
    simp only [D.age, ages_nats]
    refine ⟨.len _ (by simp; omega) (by simp; omega), txt_nats (fun a h => ?_) (by simp; omega) .ol⟩
    rcases List.mem_append.mp h with h | h
    · exact hlt a h
    · rw [List.mem_singleton.mp h]; omega
  · exact ⟨.item _ (by simp) (by simp) (by simp), txt_of (by decide +kernel)⟩
  · exact ⟨.item _ (by simp) (by simp) (by simp), txt_of (by decide +kernel)⟩
  · exact ⟨.item _ (by simp) (by simp) (by simp), txt_of (by decide +kernel)⟩
  · exact ⟨.dct, txt_of (by decide +kernel)⟩
/-- a ranking that is none is refused -/
theorem bad_ranks {n : Nat} {ax : List Nat} (ha : Ord n ax) (h1 : 1 ≤ n) (h7 : n ≤ 7) {d : D} (h : NoOrd n d.age) : depth prog 39 I_answers_of [.sh (rk .ol ax), .sh d.age] = .exn 1 d.age [.un, .un] := by
  have q := s_check_line 37 (by omega) n ax ha h1 h7
  have hl := ha.len
  have q2 := s_no_order 36 (by omega) n d.age h
  have q3 : depth prog 37 I_check_ranking [.sh d.age, .sh (.int n)] = .exn 1 d.age [.un, .un] := by
    refine depth_wp G_check_ranking rfl ?_
    simp [q2, age_age]
  have q4 : depth prog 38 I_check_peaked [.sh (rk .ol ax), .sh d.age] = .exn 1 d.age [.un, .un] := by
    refine depth_wp G_check_peaked rfl ?_
    simp [q, q3, age_age, hl]
  refine depth_wp G_answers_of rfl ?_
  simp [q4, age_age]
theorem s_unpeaked {n : Nat} {ax r : List Nat} (ha : Ord n ax) (hr : Ord n r) (h1 : 1 ≤ n) (h7 : n ≤ 7) (hp : pk r ax = false) : depth prog 39 I_answers_of [.sh (rk .ol ax), .sh (rk .ol r)] = .exn 14 (rk .ol r) [.un, .un] := by
  have q1 := s_check_line 37 (by omega) n ax ha h1 h7
  have q2 := s_check_ranking 37 (by omega) n r hr
  have hl := ha.len
  have hrl := hr.len
  have q3 := s_is_peaked_on 37 (by omega) r ax (fun z => by rw [z] at hrl; simp at hrl; omega) (fun a h => ha.mem.mpr (hr.mem.mp h))
  rw [hp] at q3
  have q4 : depth prog 38 I_check_peaked [.sh (rk .ol ax), .sh (rk .ol r)] = .exn 14 (rk .ol r) [.un, .un] := by
    refine depth_wp G_check_peaked rfl ?_
    simp [q1, q2, q3, hl]
  refine depth_wp G_answers_of rfl ?_
  simp [q4]
theorem bad_axes : ∀ d ∈ wrongAx, depth prog 39 I_question [.sh d.age, .sh .non] = .exn 2 d.age [.un, .un] ∧ depth prog 39 I_told_so_far [.sh d.age, .sh .non] = .exn 2 d.age [.un, .un] ∧ depth prog 39 I_open_rankings [.sh d.age, .sh .non] = .exn 2 d.age [.un, .un] ∧ depth prog 39 I_answers_of [.sh d.age, .sh .non] = .exn 2 d.age [.un, .un] := by
  intro d hd
  have q := s_check_bad 31 d hd
  have q1 : depth prog 38 I_check_answers [.sh d.age, .sh .non] = .exn 2 d.age [.un, .un] := by
    refine depth_wp G_check_answers rfl ?_
    simp [q, age_age]
  have q2 : depth prog 38 I_check_peaked [.sh d.age, .sh .non] = .exn 2 d.age [.un, .un] := by
    refine depth_wp G_check_peaked rfl ?_
    simp [q, age_age]
  refine ⟨?_, ?_, ?_, ?_⟩
  · refine depth_wp G_question rfl ?_
    simp [q1, age_age]
  · refine depth_wp G_told_so_far rfl ?_
    simp [q1, age_age]
  · refine depth_wp G_open_rankings rfl ?_
    simp [q1, age_age]
  · refine depth_wp G_answers_of rfl ?_
    simp [q2, age_age]
end Pg
set_option linter.all false
set_option maxRecDepth 100000
set_option maxHeartbeats 2000000
set_option Elab.async false
set_option pp.maxSteps 2500
namespace Pg
open Rf Rv
open PySem (Str PyData)
theorem turn_end {n : Nat} {ax W : List Nat} (ha : Ord n ax) (hW : Lets (n - 1) W) (h1 : 1 ≤ n) (h7 : n ≤ 7) {f : Lb} (hf : f = .nu ∨ f = .ol) {β : Envr} {Q : Out → Envr → Prop} {X : EX} (script turn : D) (G : Gen) {m : Nat} (hG : G.ok (n + m)) (x3 x5 x6 x9 x12 x13 x14 x15 : SV)
    (hq : ∀ G' x3 x4 x5 x6 x7 x8 x9 x10 x11 x12 x13 x14 x15, Gen.ok G' m → Q .nx [.sh script, .ow G'.ds, .sh turn, x3, x4, x5, x6, x7, x8, x9, x10, x11, x12, x13, x14, x15, .un, .un]) :
    wp (execs (depth prog 39) β S_law_1x_4) [.sh script, .ow G.ds, .sh turn, x3, .sh (rk f ax), x5, x6, .sh (rk f (bye n ax W)), .sh (.str (D.py (rk .nu ax)).shown), x9, .sh (rk .nu W), .sh (rks f f (lst n ax)), x12, x13, x14, x15, .un, .un] Q X := by
  have hWl := hW.1
  have hlen := ha.len
  have q1 := s_question 39 (by omega) n (n - 1) ax W ha h1 h7 hW (by omega)
  rw [if_neg (by omega)] at q1
  have q2 := s_told_so_far 39 (by omega) n ax W ha h1 h7 hW
  have q3 := s_open_rankings 39 (by omega) n (n - 1) ax W ha h1 h7 hW (by omega)
  have q4 := s_answers_of 39 (by omega) n ax W ha h1 h7 hW
  have q5 : depth prog 39 I_open_rankings [.sh (rk .ol ax), .sh (.lst .ol [])] = .ret (.fz (.int ((2 ^ (n - 1) : Nat) : Int))) [.un, .un] := s_open_rankings 39 (by omega) n 0 ax [] ha h1 h7 ⟨rfl, by simp⟩ (by omega)
  have hO := (bye_pkd (row := W) ha (by omega)).1
  have hRl := hO.len
  have lE : (lst n ax).length = 2 ^ (n - 1) := by
    unfold lst; rw [(srt_perm _).length_eq, List.length_map, rowsL_len]
  have fa := nu_ol hf
  have bw := badRows_ok h1 h7 hW
  generalize bye n ax W = R at *
  generalize lst n ax = E at *
  have hplain : plainD (rk .nu ax) = true := by
    simp only [plainD]
    exact plain_nats fun a h => by have := ha.mem.mp h; omega
  have hwt : wtD (rk .nu ax) ≤ 1000 := by
    simp only [wtD, wt_nats]; omega
  obtain ⟨t1, t2, t3⟩ := plain_ok _ hplain
  have t4 := limk (n := (D.py (rk .nu ax)).shown.length) (by omega)
  have e1 : D.py (rk f ax) = D.py (rk .nu ax) := by simp only [D.py]
  generalize hS : (D.py (rk .nu ax)).shown = S at *
  have l1 : n ≤ 1000 := by omega
  have l2 : n - 1 ≤ 1000 := by omega
  have l3 := limk' (n := n - 1) (by omega)
  have l4 := limk (n := n - 1 + 1) (by omega)
  have d1 := s_drawn 39 (by omega) G (ax.map fun k : Nat => D.int k) (m := m) (by rw [List.length_map, hlen]; exact hG) (by rw [List.length_map]; omega) (fun d hd => by
    obtain ⟨i, _, rfl⟩ := List.mem_map.mp hd; simp) .ol
  rw [ordR_map, ordG_map] at d1
  have hr : Ord n (ordR G ax) := (ordR_perm G ax).trans ha
  have hG2 := ordG_ok (m := m) (xs := ax) (by rw [hlen]; exact hG)
  generalize ordR G ax = r at *
  generalize ordG G ax = G2 at *
  have d2 := s_law_peaked 39 (by omega) n ax r ha hr h1 h7
  have hrl := hr.len
  have wr := s_law_wrong 39 (by omega) n h1 h7
  have key : wp (execs (depth prog 39) β S_law_1x_9) [.sh script, .ow G2.ds, .sh turn, x3, .sh (rk f ax), x5, .sh (rk .nu r), .sh (rk f R), .sh (.str S), x9, .sh (rk .nu W), .sh (rks f f E), x12, x13, x14, x15, .un, .un] Q X := by
    unfold S_law_1x_9
    simp [-x_forL, -x_forL0, l4, hWl]
    refine bad_all (k := 38) (j := 3) (E := fun x => [.sh script, .ow G2.ds, .sh turn, x, .sh (rk f ax), x5, .sh (rk .nu r), .sh (rk f R), .sh (.str S), x9, .sh (rk .nu W), .sh (rks f f E), x12, x13, x14, x15, .un, .un]) (fun _ _ => rfl) (fun _ => rfl) str_row _ _ (fun d hd => ?_) fun x => ?_
    · obtain ⟨b1, b2⟩ := bw d hd
      obtain ⟨c1, c2, c3⟩ := bad_rows ha h1 h7 b1
      refine ⟨b2, ?_⟩
      simp [refd, lamS, c1, c2, c3, fa.2, age_age]
    · unfold S_law_1x_10
      simp [-x_forL, -x_forL0, hlen, wr]
      refine bad_one (k := 38) (j := 3) (E := fun x => [.sh script, .ow G2.ds, .sh turn, x, .sh (rk f ax), x5, .sh (rk .nu r), .sh (rk f R), .sh (.str S), x9, .sh (rk .nu W), .sh (rks f f E), x12, x13, x14, x15, .un, .un]) (fun _ _ => rfl) (fun _ => rfl) str_ranking _ _ (fun d hd => ?_) fun x => ?_
      · obtain ⟨b1, b2⟩ := wrongs_ok h1 h7 hd
        have c1 := bad_ranks ha h1 h7 b1
        refine ⟨b2, ?_⟩
        simp [refd, lamS, c1, fa.2, age_age]
      · simp
        exact hq _ _ _ _ _ _ _ _ _ _ _ _ _ _ hG2
  unfold S_law_1x_4 S_law_1x_5 S_law_1x_6 S_law_1x_7 S_law_1x_8
  cases hpk : pk r ax with
  | true =>
    rw [hpk] at d2
    simp [q1, q2, q3, q4, q5, same_z, hRl, hWl, l1, l2, l3, lE, fa.1, fa.2, t1, t2, t4, e1, hS, d1, d2]
    exact key
  | false =>
    rw [hpk] at d2
    have q3' := s_unpeaked ha hr h1 h7 hpk
    have q4' := s_alike 39 (by omega) (D.age (rk .nu r)) (by simpa using txt_nats (l := r) (fun a h => by have := hr.mem.mp h; omega) (by omega) .ol)
    have q5' := refV_same (al := I__law_alike) (d := rk .ol r) (dv := rk .nu r) str_unpeaked (by simp) q4'
    simp [q1, q2, q3, q4, q5, same_z, hRl, hWl, l1, l2, l3, lE, fa.1, fa.2, t1, t2, t4, e1, hS, d1, d2, lamS, q3', q5']
    exact key
end Pg
set_option linter.all false
set_option maxRecDepth 100000
set_option maxHeartbeats 400000
set_option Elab.async false
set_option pp.maxSteps 2500
namespace Pg
open Rf Rv
open PySem (Str PyData)
theorem tail_run (β : Envr) (x0 x1 x2 x3 x4 x5 x6 x7 x8 x9 x10 x11 x12 x13 x14 x15 : SV) : ∃ e, execs (depth prog 39) β S_law_3 [x0, x1, x2, x3, x4, x5, x6, x7, x8, x9, x10, x11, x12, x13, x14, x15, .un, .un] = .ok (.ret (.fz (.bl true))) (x0 :: e) := ⟨[x1, x2, x3, .sh (.lst .nu [.int 0, .int 1, .int 2, .int 3]), .sh (.lst .nu [.tup [.int 0, .int 3], .tup [.int 1, .int 3], .non, .lst .nu [.int 0], .lst .nu [.int 2, .int 1, .int 3, .int 0], .int 4, .lst .nu [.int 0, .int 1, .int 0], .lst .nu [.int 0]]), x6, x7, x8, x9, x10, x11, x12, x13, x14, x15, .un, .un], by kernel_rfl⟩
theorem turn_ok {β : Envr} {Q : Out → Envr → Prop} {X : EX} (script turn : D) (hs : script.age = script) (ht : turn.age = turn) (G : Gen) {m : Nat} (hG : G.ok (m + 100)) (x3 x4 x5 x6 x7 x8 x9 x10 x11 x12 x13 x14 x15 : SV)
    (hq : ∀ G' x3 x4 x5 x6 x7 x8 x9 x10 x11 x12 x13 x14 x15, Gen.ok G' m → Q .nx [.sh script, .ow G'.ds, .sh turn, x3, x4, x5, x6, x7, x8, x9, x10, x11, x12, x13, x14, x15, .un, .un]) :
    wp (execs (depth prog 39) β S_law_1x_0) [.sh script, .ow G.ds, .sh turn, x3, x4, x5, x6, x7, x8, x9, x10, x11, x12, x13, x14, x15, .un, .un] Q X := by
  obtain ⟨n, ax, G1, h1, h7, ha, g1, d1⟩ := s_axis 39 (by omega) G (m := m + 90) (hG.mono (by omega))
  obtain ⟨W, G2, hW, g2, d2⟩ := s_peaked_drawn 39 (by omega) G1 n (m + 80) ax ha h1 h7 (g1.mono (by omega))
  have d3 := s_all_peaked 39 (by omega) n ax ha h1 h7
  have hplain : plainD (rk .nu ax) = true := by
    simp only [plainD]
    exact plain_nats fun a h => by have := ha.mem.mp h; omega
  have hwt : wtD (rk .nu ax) ≤ 1000 := by
    have := ha.len
    simp only [wtD, wt_nats]; omega
  obtain ⟨t1, t2, t3⟩ := plain_ok _ hplain
  have t4 := limk (n := (D.py (rk .nu ax)).shown.length) (by omega)
  have key := ask_loop (β := β) (Q := fun o δ => nxq o δ (execs (depth prog 39) β S_law_1x_4) Q X) (X := X) ha hW h1 h7 script turn (.str (D.py (rk .nu ax)).shown) hs ht rfl G2 x3 x6 x12 x13 x14 x15 (fun f y3 y6 y12 y13 y14 y15 hf => by
    show wp _ _ _ _
    exact turn_end ha hW h1 h7 hf script turn G2 (m := m) (g2.mono (by omega)) _ _ _ _ _ _ _ _ hq)
  unfold S_law_1x_0 S_law_1x_1 S_law_1x_2 S_law_1x_3
  simp [d1, d2, d3, t1]
  exact ⟨t4, key⟩
theorem law_true (ns : List Int) (hns : ns.length ≤ 63) : ∃ ws, depth prog 40 I_law [.sh (.lst .ro (ns.map .int))] = .ret (.fz (.bl true)) ws := by
  refine ⟨[.un], ?_⟩
  have gs0 := s_generator 39 (by omega) ns 0
  simp at gs0
  have gok := genV_ok ns 0 (by omega)
  generalize genV ns 0 = G0 at *
  have hage : (D.lst .ro (ns.map D.int)).age = D.lst .ro (ns.map D.int) := by simp
  generalize hsc : D.lst .ro (ns.map D.int) = sc at *
  refine depth_wp G'_law rfl ?_
  unfold S_law_0 S_law_1
  simp [gs0, hage]
  refine ⟨small_k (by omega) (by omega), ?_⟩
  rw [show ranged 0 2 = (List.range 2).map fun k : Nat => D.int k from ranged_nat 2]
  refine wp_forL (fun k : Nat => D.int k) (fun rem δ => ∃ G x2 x3 x4 x5 x6 x7 x8 x9 x10 x11 x12 x13 x14 x15, Gen.ok G (100 * rem.length) ∧ δ = [.sh sc, .ow G.ds, x2, x3, x4, x5, x6, x7, x8, x9, x10, x11, x12, x13, x14, x15, .un, .un]) (List.range 2) _ ⟨G0, _, _, _, _, _, _, _, _, _, _, _, _, _, _, gok.mono (by simp), rfl⟩ ?_ ?_
  · rintro c rem δ ⟨G, x2, x3, x4, x5, x6, x7, x8, x9, x10, x11, x12, x13, x14, x15, hG, rfl⟩
    simp
    refine turn_ok sc (.int c) hage rfl G (m := 100 * rem.length) (hG.mono (by simp; omega)) _ _ _ _ _ _ _ _ _ _ _ _ _ fun G' y3 y4 y5 y6 y7 y8 y9 y10 y11 y12 y13 y14 y15 hG' => ?_
    exact ⟨G', hG', _, _, _, _, _, _, _, _, _, _, _, _, _, _, rfl⟩
  · rintro δ ⟨G, x2, x3, x4, x5, x6, x7, x8, x9, x10, x11, x12, x13, x14, x15, hG, rfl⟩
    have wa := s_wrong_axes 38
    unfold S_law_2
    simp [-x_forL, -x_forL0, wa]
    refine bad_all (k := 38) (j := 3) (E := fun x => [.sh sc, .ow G.ds, x2, x, x4, x5, x6, x7, x8, x9, x10, x11, x12, x13, x14, x15, .un, .un]) (fun _ _ => rfl) (fun _ => rfl) str_axis _ _ (fun d hd => ?_) fun x => ?_
    · obtain ⟨c1, c2, c3, c4⟩ := bad_axes d hd
      refine ⟨wrongAx_txt d hd, ?_⟩
      simp [refd, lamS, c1, c2, c3, c4, age_age]
    · obtain ⟨e, he⟩ := tail_run [.sh sc, .un, .un, .un, .un, .un, .un, .un, .un, .un, .un, .un, .un, .un, .un, .un, .un, .un] (.sh sc) (.ow G.ds) x2 x x4 x5 x6 x7 x8 x9 x10 x11 x12 x13 x14 x15
      rw [nxq_nx]
      unfold wp
      rw [he]
      subst hsc
      rfl
end Pg
namespace Pg
open PySem PySem.Spec PyProof.Rows L2 Rf
theorem c0 : chP gt p0 = true ∨ p0.F.body = badB := .inl (by decide +kernel)
theorem c1 : chP gt p1 = true ∨ p1.F.body = badB := .inl (by decide +kernel)
theorem c2 : chP gt p2 = true ∨ p2.F.body = badB := .inl (by decide +kernel)
theorem c3 : chP gt p3 = true ∨ p3.F.body = badB := .inl (by decide +kernel)
theorem c4 : chP gt p4 = true ∨ p4.F.body = badB := .inl (by decide +kernel)
theorem c5 : chP gt p5 = true ∨ p5.F.body = badB := .inl (by decide +kernel)
theorem c6 : chP gt p6 = true ∨ p6.F.body = badB := .inl (by decide +kernel)
theorem c7 : chP gt p7 = true ∨ p7.F.body = badB := .inl (by decide +kernel)
theorem c8 : chP gt p8 = true ∨ p8.F.body = badB := .inl (by decide +kernel)
theorem c9 : chP gt p9 = true ∨ p9.F.body = badB := .inl (by decide +kernel)
theorem c10 : chP gt p10 = true ∨ p10.F.body = badB := .inl (by decide +kernel)
theorem c11 : chP gt p11 = true ∨ p11.F.body = badB := .inl (by decide +kernel)
theorem c12 : chP gt p12 = true ∨ p12.F.body = badB := .inl (by decide +kernel)
theorem c13 : chP gt p13 = true ∨ p13.F.body = badB := .inl (by decide +kernel)
theorem c14 : chP gt p14 = true ∨ p14.F.body = badB := .inl (by decide +kernel)
theorem c15 : chP gt p15 = true ∨ p15.F.body = badB := .inl (by decide +kernel)
theorem c16 : chP gt p16 = true ∨ p16.F.body = badB := .inl (by decide +kernel)
theorem c17 : chP gt p17 = true ∨ p17.F.body = badB := .inl (by decide +kernel)
theorem c18 : chP gt p18 = true ∨ p18.F.body = badB := .inl (by decide +kernel)
theorem c19 : chP gt p19 = true ∨ p19.F.body = badB := .inl (by decide +kernel)
theorem c20 : chP gt p20 = true ∨ p20.F.body = badB := .inl (by decide +kernel)
theorem c21 : chP gt p21 = true ∨ p21.F.body = badB := .inl (by decide +kernel)
theorem c22 : chP gt p22 = true ∨ p22.F.body = badB := .inl (by decide +kernel)
theorem c23 : chP gt p23 = true ∨ p23.F.body = badB := .inr rfl
theorem c24 : chP gt p24 = true ∨ p24.F.body = badB := .inl (by decide +kernel)
theorem c25 : chP gt p25 = true ∨ p25.F.body = badB := .inr rfl
theorem c26 : chP gt p26 = true ∨ p26.F.body = badB := .inr rfl
theorem c27 : chP gt p27 = true ∨ p27.F.body = badB := .inl (by decide +kernel)
theorem c28 : chP gt p28 = true ∨ p28.F.body = badB := .inl (by decide +kernel)
theorem c29 : chP gt p29 = true ∨ p29.F.body = badB := .inl (by decide +kernel)
theorem c30 : chP gt p30 = true ∨ p30.F.body = badB := .inl (by decide +kernel)
theorem c31 : chP gt p31 = true ∨ p31.F.body = badB := .inl (by decide +kernel)
theorem c32 : chP gt p32 = true ∨ p32.F.body = badB := .inl (by decide +kernel)
theorem c33 : chP gt p33 = true ∨ p33.F.body = badB := .inl (by decide +kernel)
theorem c34 : chP gt p34 = true ∨ p34.F.body = badB := .inl (by decide +kernel)
theorem rfOk : chR gt pg = true := by decide +kernel
theorem bd0 : BdOk p0 := fun _ _ _ _ _ _ us hl => match us, hl with | [_], _ => rfl
theorem bd1 : BdOk p1 := fun _ _ _ _ _ _ us hl => match us, hl with | [_], _ => rfl
theorem bd2 : BdOk p2 := fun _ _ _ _ _ _ us hl => match us, hl with | [_, _], _ => rfl
theorem bd3 : BdOk p3 := fun _ _ _ _ _ _ us hl => match us, hl with | [_, _], _ => rfl
theorem bd4 : BdOk p4 := fun _ _ _ _ _ _ us hl => match us, hl with | [_], _ => rfl
theorem bd5 : BdOk p5 := fun _ _ _ _ _ _ us hl => match us, hl with | [_, _], _ => rfl
theorem bd6 : BdOk p6 := fun _ _ _ _ _ _ us hl => match us, hl with | [_, _], _ => rfl
theorem bd7 : BdOk p7 := fun _ _ _ _ _ _ us hl => match us, hl with | [_], _ => rfl
theorem bd8 : BdOk p8 := fun _ _ _ _ _ _ us hl => match us, hl with | [_, _], _ => rfl
theorem bd9 : BdOk p9 := fun _ _ _ _ _ _ us hl => match us, hl with | [_, _], _ => rfl
theorem bd10 : BdOk p10 := fun _ _ _ _ _ _ us hl => match us, hl with | [_, _], _ => rfl
theorem bd11 : BdOk p11 := fun _ _ _ _ _ _ us hl => match us, hl with | [_, _], _ => rfl
theorem bd12 : BdOk p12 := fun _ _ _ _ _ _ us hl => match us, hl with | [_, _], _ => rfl
theorem bd13 : BdOk p13 := fun _ _ _ _ _ _ us hl => match us, hl with | [_, _], _ => rfl
theorem bd14 : BdOk p14 := fun _ _ _ _ _ _ us hl => match us, hl with | [_, _], _ => rfl
theorem bd15 : BdOk p15 := fun _ _ _ _ _ _ us hl => match us, hl with | [_, _], _ => rfl
theorem bd16 : BdOk p16 := fun _ _ _ _ _ _ us hl => match us, hl with | [_, _], _ => rfl
theorem bd17 : BdOk p17 := fun _ _ _ _ _ _ us hl => match us, hl with | [_, _], _ => rfl
theorem bd18 : BdOk p18 := fun _ _ _ _ _ _ us hl => match us, hl with | [_, _], _ => rfl
theorem bd19 : BdOk p19 := fun _ _ _ _ _ _ us hl => match us, hl with | [_, _], _ => rfl
theorem bd20 : BdOk p20 := fun _ _ _ _ _ _ us hl => match us, hl with | [_, _], _ => rfl
theorem bd21 : BdOk p21 := fun _ _ _ _ _ _ us hl => match us, hl with | [_, _], _ => rfl
theorem bd22 : BdOk p22 := fun _ _ _ _ _ _ us hl => match us, hl with | [_, _], _ => rfl
theorem bd23 : BdOk p23 := fun _ _ _ _ _ _ us hl => match us, hl with | [_], _ => rfl
theorem bd24 : BdOk p24 := fun _ _ _ _ _ _ us hl => match us, hl with | [_, _], _ => rfl
theorem bd25 : BdOk p25 := fun _ _ _ _ _ _ us hl => match us, hl with | [_, _, _], _ => rfl
theorem bd26 : BdOk p26 := fun _ _ _ _ _ _ us hl => match us, hl with | [_, _, _], _ => rfl
theorem bd27 : BdOk p27 := fun _ _ _ _ _ _ us hl => match us, hl with | [_, _], _ => rfl
theorem bd28 : BdOk p28 := fun _ _ _ _ _ _ us hl => match us, hl with | [_, _], _ => rfl
theorem bd29 : BdOk p29 := fun _ _ _ _ _ _ us hl => match us, hl with | [_, _], _ => rfl
theorem bd30 : BdOk p30 := fun _ _ _ _ _ _ us hl => match us, hl with | [_, _], _ => rfl
theorem bd31 : BdOk p31 := fun _ _ _ _ _ _ us hl => match us, hl with | [_], _ => rfl
theorem bd32 : BdOk p32 := fun _ _ _ _ _ _ us hl => match us, hl with | [], _ => rfl
theorem bd33 : BdOk p33 := fun _ _ _ _ _ _ us hl => match us, hl with | [_], _ => rfl
theorem bd34 : BdOk p34 := fun _ _ _ _ _ _ us hl => match us, hl with | [_], _ => rfl
theorem allC : Rf.AllP (fun p => chP gt p = true ∨ p.F.body = badB) pg := (.cons c0 (.cons c1 (.cons c2 (.cons c3 (.cons c4 (.cons c5 (.cons c6 (.cons c7 (.cons c8 (.cons c9 (.cons c10 (.cons c11 (.cons c12 (.cons c13 (.cons c14 (.cons c15 (.cons c16 (.cons c17 (.cons c18 (.cons c19 (.cons c20 (.cons c21 (.cons c22 (.cons c23 (.cons c24 (.cons c25 (.cons c26 (.cons c27 (.cons c28 (.cons c29 (.cons c30 (.cons c31 (.cons c32 (.cons c33 (.cons c34 .nil)))))))))))))))))))))))))))))))))))
theorem allB : Rf.AllP BdOk pg := (.cons bd0 (.cons bd1 (.cons bd2 (.cons bd3 (.cons bd4 (.cons bd5 (.cons bd6 (.cons bd7 (.cons bd8 (.cons bd9 (.cons bd10 (.cons bd11 (.cons bd12 (.cons bd13 (.cons bd14 (.cons bd15 (.cons bd16 (.cons bd17 (.cons bd18 (.cons bd19 (.cons bd20 (.cons bd21 (.cons bd22 (.cons bd23 (.cons bd24 (.cons bd25 (.cons bd26 (.cons bd27 (.cons bd28 (.cons bd29 (.cons bd30 (.cons bd31 (.cons bd32 (.cons bd33 (.cons bd34 .nil)))))))))))))))))))))))))))))))))))
theorem kb0 : KbOk p13 [1, 0] (["row", "axis"] : List PySem.Str) := fun _ _ _ _ _ _ ws hl => match ws, hl with | [x0, x1], _ => ⟨[x1, x0], rfl, rfl⟩
theorem kb1 : KbOk p14 [1, 0] (["row", "axis"] : List PySem.Str) := fun _ _ _ _ _ _ ws hl => match ws, hl with | [x0, x1], _ => ⟨[x1, x0], rfl, rfl⟩
theorem kb2 : KbOk p15 [1, 0] (["row", "axis"] : List PySem.Str) := fun _ _ _ _ _ _ ws hl => match ws, hl with | [x0, x1], _ => ⟨[x1, x0], rfl, rfl⟩
theorem kb3 : KbOk p16 [1, 0] (["ranking", "axis"] : List PySem.Str) := fun _ _ _ _ _ _ ws hl => match ws, hl with | [x0, x1], _ => ⟨[x1, x0], rfl, rfl⟩
theorem allK : ∀ i kw ks p, (i, kw, ks) ∈ gt.kws → pg[i]? = some p → KbOk p kw ks := by
  intro i kw ks p h e
  simp only [gt, List.mem_append, List.mem_cons, List.not_mem_nil, or_false, Prod.mk.injEq] at h
  rcases h with ⟨rfl, rfl, rfl⟩ | ⟨rfl, rfl, rfl⟩ | ⟨rfl, rfl, rfl⟩ | ⟨rfl, rfl, rfl⟩
  · cases (Option.some.inj e); exact kb0
  · cases (Option.some.inj e); exact kb1
  · cases (Option.some.inj e); exact kb2
  · cases (Option.some.inj e); exact kb3
theorem ib0 : IbOk ini0 := { body := ⟨_, _, _, _, _, _, _, _, _, _, rfl, rfl⟩, head := ⟨_, rfl, rfl⟩, bind := fun _ _ _ _ _ _ _ _ _ _ _ => ⟨_, rfl, rfl⟩ }
theorem ib1 : IbOk ini1 := { body := ⟨_, _, _, _, _, _, _, _, _, _, rfl, rfl⟩, head := ⟨_, rfl, rfl⟩, bind := fun _ _ _ _ _ _ _ _ _ _ _ => ⟨_, rfl, rfl⟩ }
theorem ib2 : IbOk ini2 := { body := ⟨_, _, _, _, _, _, _, _, _, _, rfl, rfl⟩, head := ⟨_, rfl, rfl⟩, bind := fun _ _ _ _ _ _ _ _ _ _ _ => ⟨_, rfl, rfl⟩ }
theorem ib3 : IbOk ini3 := { body := ⟨_, _, _, _, _, _, _, _, _, _, rfl, rfl⟩, head := ⟨_, rfl, rfl⟩, bind := fun _ _ _ _ _ _ _ _ _ _ _ => ⟨_, rfl, rfl⟩ }
theorem ib4 : IbOk ini4 := { body := ⟨_, _, _, _, _, _, _, _, _, _, rfl, rfl⟩, head := ⟨_, rfl, rfl⟩, bind := fun _ _ _ _ _ _ _ _ _ _ _ => ⟨_, rfl, rfl⟩ }
theorem ib5 : IbOk ini5 := { body := ⟨_, _, _, _, _, _, _, _, _, _, rfl, rfl⟩, head := ⟨_, rfl, rfl⟩, bind := fun _ _ _ _ _ _ _ _ _ _ _ => ⟨_, rfl, rfl⟩ }
theorem ib6 : IbOk ini6 := { body := ⟨_, _, _, _, _, _, _, _, _, _, rfl, rfl⟩, head := ⟨_, rfl, rfl⟩, bind := fun _ _ _ _ _ _ _ _ _ _ _ => ⟨_, rfl, rfl⟩ }
theorem ib7 : IbOk ini7 := { body := ⟨_, _, _, _, _, _, _, _, _, _, rfl, rfl⟩, head := ⟨_, rfl, rfl⟩, bind := fun _ _ _ _ _ _ _ _ _ _ _ => ⟨_, rfl, rfl⟩ }
theorem ib8 : IbOk ini8 := { body := ⟨_, _, _, _, _, _, _, _, _, _, rfl, rfl⟩, head := ⟨_, rfl, rfl⟩, bind := fun _ _ _ _ _ _ _ _ _ _ _ => ⟨_, rfl, rfl⟩ }
theorem ib9 : IbOk ini9 := { body := ⟨_, _, _, _, _, _, _, _, _, _, rfl, rfl⟩, head := ⟨_, rfl, rfl⟩, bind := fun _ _ _ _ _ _ _ _ _ _ _ => ⟨_, rfl, rfl⟩ }
theorem ib10 : IbOk ini10 := { body := ⟨_, _, _, _, _, _, _, _, _, _, rfl, rfl⟩, head := ⟨_, rfl, rfl⟩, bind := fun _ _ _ _ _ _ _ _ _ _ _ => ⟨_, rfl, rfl⟩ }
theorem ib11 : IbOk ini11 := { body := ⟨_, _, _, _, _, _, _, _, _, _, rfl, rfl⟩, head := ⟨_, rfl, rfl⟩, bind := fun _ _ _ _ _ _ _ _ _ _ _ => ⟨_, rfl, rfl⟩ }
theorem ib12 : IbOk ini12 := { body := ⟨_, _, _, _, _, _, _, _, _, _, rfl, rfl⟩, head := ⟨_, rfl, rfl⟩, bind := fun _ _ _ _ _ _ _ _ _ _ _ => ⟨_, rfl, rfl⟩ }
theorem ib13 : IbOk ini13 := { body := ⟨_, _, _, _, _, _, _, _, _, _, rfl, rfl⟩, head := ⟨_, rfl, rfl⟩, bind := fun _ _ _ _ _ _ _ _ _ _ _ => ⟨_, rfl, rfl⟩ }
theorem ib14 : IbOk ini14 := { body := ⟨_, _, _, _, _, _, _, _, _, _, rfl, rfl⟩, head := ⟨_, rfl, rfl⟩, bind := fun _ _ _ _ _ _ _ _ _ _ _ => ⟨_, rfl, rfl⟩ }
theorem ib15 : IbOk ini15 := { body := ⟨_, _, _, _, _, _, _, _, _, _, rfl, rfl⟩, head := ⟨_, rfl, rfl⟩, bind := fun _ _ _ _ _ _ _ _ _ _ _ => ⟨_, rfl, rfl⟩ }
theorem ibs : ∀ d ∈ inis, IbOk d := by
  intro d h
  simp only [inis, List.mem_cons, List.not_mem_nil, or_false] at h
  rcases h with rfl | rfl | rfl | rfl | rfl | rfl | rfl | rfl | rfl | rfl | rfl | rfl | rfl | rfl | rfl | rfl
  · exact ib0
  · exact ib1
  · exact ib2
  · exact ib3
  · exact ib4
  · exact ib5
  · exact ib6
  · exact ib7
  · exact ib8
  · exact ib9
  · exact ib10
  · exact ib11
  · exact ib12
  · exact ib13
  · exact ib14
  · exact ib15
theorem clsOk : gt.cls = inis.map (·.x) := rfl
theorem supOk : ("super" : PySem.Str) ∈ gt.free := by decide
theorem namesOk : pg.map (·.x) = gt.fns := rfl
end Pg
open PySem PySem.W PySem.Calls PyProof.Rows
theorem PySem.Challenge.cw_alongline_k70_whole_ends_asked_for_holds : PySem.Challenge.rw_alongline_k70_whole_ends_asked_for.Holds := by
  w_on; o_law
  refine HandSHeadRun.head_any (r := Pg.R) (q := view Pg.R.prog [58]) (H := Pg.hk) (ob := Pg.ob) (M := 20000) (loose := Pg.loose)
    (d := HandSHeadRun.topDef Pg.R.prog 58) (kwd := []) Pg.ob_eq (by kernel_rfl) (fun s => by kernel_rfl) Pg.run (by kernel_rfl) (by kernel_rfl) (by kernel_rfl) (by rfl)
    (by first | assumption | decide +kernel) (by decide +kernel) ⟨rfl, rfl, rfl, rfl, rfl, by decide +kernel⟩ ?hw ?hc
  case hw => w_witness2
  case hc =>
    refine Rf.walkG (l := PySem.Challenge.rw_alongline_k70_whole_ends_asked_for) (n := 63) (k := 5 * 40) (x := "script") rfl (by decide) (by kernel_rfl) ⟨rfl, by decide, by decide⟩ ?F
    intro w mg fa h Y G hm0
    obtain ⟨K, KX, c, ci⟩ := Y
    have hm : mg Pg.p34.x = some (.ref fa) := by
      have e : (HandSHeadRun.topDef Pg.R.prog 58).name = Pg.p34.x := by kernel_rfl
      rw [← e]
      exact hm0
    exact Rf.law_of KX G c ci Pg.supOk Pg.clsOk Pg.ibs Pg.namesOk Pg.allC Pg.rfOk Pg.allB Pg.allK (i := 34) rfl rfl hm Pg.law_true
